import PyProof.Rows.All
import Wide.All
import OpenK.AllK
import Wide.FinOn
import HandS.ForMost
import HandS.ForExc
import HandS.Walk
import HandS.Zip
import HandS.IsInst
import HandS.Gcd
import HandS.Wide
import HandS.WideBits
import HandS.Style
import HandS.TupAny
import HandS.Deep
import HandS.Conv
import HandS.CallSlots
import HandS.TryMany
import HandS.ExcInit
import HandS.Flow
import HandS.SetKeys
import KE.GoesNew
import KE.GoesRev
import KE.GoesRaise
import PyProof.WalksMore
import HandS.WideMore
import HandS.ExcField
import KE.IntBitsLaws
import PySem.Challenge.RW_mergerates_k54_triangle_of_cuts
set_option Elab.async false
set_option linter.all false
set_option maxRecDepth 100000
set_option maxHeartbeats 4000000
namespace MR
open PySem PySem.Spec PyProof.Rows L2

abbrev ST := L2.St
/-- data as trees -/
inductive D where
  | non | bl (b : Bool) | int (i : Int) | str (x : Str) | tup (l : List D) | lst (l : List D) | dic (l : List (D × D)) | ins (c : Nat) (l : List D) | frl (l : List D)

/-- a dict's key: an int, a text -/
def keyD : D → Option Key
  | .int i => some (.inl i)
  | .str x => some (.inr x)
  | _ => none
mutual
inductive Rp (K : PySem.W.Frag) (G : Hp) : D → V → Prop
  | non : Rp K G .non .non
  | bl (b : Bool) : Rp K G (.bl b) (.bl b)
  | int (i : Int) : Rp K G (.int i) (.int i)
  | str (x : Str) : Rp K G (.str x) (.str x)
  | tup {a : Addr} {vs : List V} {ds : List D} : SqT K G a vs → RpL K G ds vs → Rp K G (.tup ds) (.ref a)
  | lst {a : Addr} {vs : List V} {ds : List D} : G a = some (.lst vs) → RpL K G ds vs → Rp K G (.lst ds) (.ref a)
  | frl {a : Addr} {vs : List V} {ds : List D} : SqL K G a vs → RpL K G ds vs → Rp K G (.frl ds) (.ref a)
  | dic {a : Addr} {kvs : List (Key × V)} {ds : List (D × D)} : G a = some (.dK kvs) → RpKV K G ds kvs → Rp K G (.dic ds) (.ref a)
inductive RpL (K : PySem.W.Frag) (G : Hp) : List D → List V → Prop
  | nil : RpL K G [] []
  | cons {d : D} {v : V} {ds : List D} {vs : List V} : Rp K G d v → RpL K G ds vs → RpL K G (d :: ds) (v :: vs)
inductive RpKV (K : PySem.W.Frag) (G : Hp) : List (D × D) → List (Key × V) → Prop
  | nil : RpKV K G [] []
  | cons {k d : D} {key : Key} {v : V} {ds : List (D × D)} {vs : List (Key × V)} : keyD k = some key → Rp K G d v → RpKV K G ds vs → RpKV K G ((k, d) :: ds) ((key, v) :: vs)
end

theorem sqT_same {K : PySem.W.Frag} {H H' : Hp} {a : Addr} {xs : List V} (e : Same H H') (h : SqT K H a xs) : SqT K H' a xs := by
  rcases h with (h | ⟨o, h⟩) | h
  · exact .inl (.inl (e _ _ h))
  · exact .inl (.inr ⟨o, e _ _ h⟩)
  · exact .inr h

mutual
theorem Rp.mono {K : PySem.W.Frag} {G G' : Hp} (s : Same G G') : ∀ {d : D} {v : V}, Rp K G d v → Rp K G' d v
  | _, _, .non => .non
  | _, _, .bl b => .bl b
  | _, _, .int i => .int i
  | _, _, .str x => .str x
  | _, _, .tup h l => .tup (sqT_same s h) (RpL.mono s l)
  | _, _, .lst h l => .lst (s _ _ h) (RpL.mono s l)
  | _, _, .frl h l => .frl (s.seq h) (RpL.mono s l)
  | _, _, .dic h l => .dic (s _ _ h) (RpKV.mono s l)
theorem RpL.mono {K : PySem.W.Frag} {G G' : Hp} (s : Same G G') : ∀ {ds : List D} {vs : List V}, RpL K G ds vs → RpL K G' ds vs
  | _, _, .nil => .nil
  | _, _, .cons h l => .cons (Rp.mono s h) (RpL.mono s l)
theorem RpKV.mono {K : PySem.W.Frag} {G G' : Hp} (s : Same G G') : ∀ {ds : List (D × D)} {vs : List (Key × V)}, RpKV K G ds vs → RpKV K G' ds vs
  | _, _, .nil => .nil
  | _, _, .cons e h l => .cons e (Rp.mono s h) (RpKV.mono s l)
end
theorem RpL.len {K : PySem.W.Frag} {G : Hp} : ∀ {ds : List D} {vs : List V}, RpL K G ds vs → ds.length = vs.length
  | _, _, .nil => rfl
  | _, _, .cons _ l => by simp [RpL.len l]
theorem RpL.app {K : PySem.W.Frag} {G : Hp} : ∀ {ds es : List D} {vs ws : List V}, RpL K G ds vs → RpL K G es ws → RpL K G (ds ++ es) (vs ++ ws)
  | _, _, _, _, .nil, h => h
  | _, _, _, _, .cons a l, h => .cons a (RpL.app l h)
theorem RpL.get {K : PySem.W.Frag} {G : Hp} : ∀ {ds : List D} {vs : List V} {i : Nat} {v : V}, RpL K G ds vs → vs[i]? = some v → ∃ d, ds[i]? = some d ∧ Rp K G d v
  | _, _, _, _, .nil, h => by simp at h
  | _, _, 0, _, .cons a l, h => by simp at h; subst h; exact ⟨_, rfl, a⟩
  | _, _, i + 1, v, .cons a l, h => by
    obtain ⟨d, e, r⟩ := RpL.get (i := i) (v := v) l (by simpa using h)
    exact ⟨d, by simpa using e, r⟩
theorem RpL.getD {K : PySem.W.Frag} {G : Hp} : ∀ {ds : List D} {vs : List V} {i : Nat} {d : D}, RpL K G ds vs → ds[i]? = some d → ∃ v, vs[i]? = some v ∧ Rp K G d v
  | _, _, _, _, .nil, h => by simp at h
  | _, _, 0, _, .cons a l, h => by simp at h; subst h; exact ⟨_, rfl, a⟩
  | _, _, i + 1, v, .cons a l, h => by
    obtain ⟨d, e, r⟩ := RpL.getD (i := i) (d := v) l (by simpa using h)
    exact ⟨d, by simpa using e, r⟩
theorem RpL.take {K : PySem.W.Frag} {G : Hp} : ∀ {ds : List D} {vs : List V} (n : Nat), RpL K G ds vs → RpL K G (ds.take n) (vs.take n)
  | _, _, 0, _ => .nil
  | _, _, _ + 1, .nil => .nil
  | _, _, n + 1, .cons a l => .cons a (RpL.take n l)
theorem RpL.drop {K : PySem.W.Frag} {G : Hp} : ∀ {ds : List D} {vs : List V} (n : Nat), RpL K G ds vs → RpL K G (ds.drop n) (vs.drop n)
  | _, _, 0, h => h
  | _, _, _ + 1, .nil => .nil
  | _, _, n + 1, .cons a l => RpL.drop n l
theorem RpL.set {K : PySem.W.Frag} {G : Hp} {d : D} {v : V} (r : Rp K G d v) : ∀ {ds : List D} {vs : List V} (n : Nat), RpL K G ds vs → RpL K G (ds.set n d) (vs.set n v)
  | _, _, _, .nil => .nil
  | _, _, 0, .cons a l => .cons r l
  | _, _, n + 1, .cons a l => .cons a (RpL.set r n l)

/-- the object at a is one's own: not frozen -/
def OwnAt (K : PySem.W.Frag) (G H : Hp) (a : Addr) : D → Prop
  | .lst ds => ∃ vs, H a = some (.lst vs) ∧ RpL K G ds vs
  | .dic ds => ∃ vs, H a = some (.dK vs) ∧ RpKV K G ds vs
  | _ => False
theorem OwnAt.mono {K : PySem.W.Frag} {G G' H H' : Hp} {a : Addr} {d : D} (h : OwnAt K G H a d) (s : Same G G') (e : H' a = H a) : OwnAt K G' H' a d := by
  cases d with
  | lst ds => obtain ⟨vs, h1, h2⟩ := h; exact ⟨vs, e.trans h1, h2.mono s⟩
  | dic ds => obtain ⟨vs, h1, h2⟩ := h; exact ⟨vs, e.trans h1, h2.mono s⟩
  | _ => exact h.elim
theorem OwnAt.some {K : PySem.W.Frag} {G H : Hp} {a : Addr} {d : D} (h : OwnAt K G H a d) : ∃ o, H a = .some o := by
  cases d with
  | lst ds => obtain ⟨vs, h1, h2⟩ := h; exact ⟨_, h1⟩
  | dic ds => obtain ⟨vs, h1, h2⟩ := h; exact ⟨_, h1⟩
  | _ => exact h.elim

/-- a slot: unassigned, frozen, one's own, one's own and walked -/
inductive Sl where
  | un | fz (d : D) | ow (d : D) | lk (d : D) | xn (c : Nat) (fs : List D)
abbrev AS := List Sl
def sget : AS → Nat → Sl
  | [], _ => .un
  | s :: _, 0 => s
  | _ :: r, i + 1 => sget r i
def sset : AS → Nat → Sl → AS
  | [], _, _ => []
  | _ :: r, 0, s => s :: r
  | x :: r, i + 1, s => x :: sset r i s
theorem sset_len : ∀ (A : AS) (i : Nat) (s : Sl), (sset A i s).length = A.length
  | [], _, _ => rfl
  | _ :: _, 0, _ => rfl
  | _ :: r, i + 1, s => by simp [sset, sset_len r i s]
theorem sget_ne : ∀ (A : AS) (i j : Nat) (s : Sl), i ≠ j → sget (sset A i s) j = sget A j
  | [], _, _, _, _ => rfl
  | _ :: _, 0, 0, _, h => absurd rfl h
  | _ :: _, 0, _ + 1, _, _ => rfl
  | _ :: _, _ + 1, 0, _, _ => rfl
  | _ :: r, i + 1, j + 1, s, h => sget_ne r i j s (by omega)
theorem sget_eq : ∀ (A : AS) (i : Nat) (s : Sl), sget (sset A i s) i = s ∨ (sget (sset A i s) i = .un ∧ A.length ≤ i)
  | [], _, _ => .inr ⟨rfl, Nat.zero_le _⟩
  | _ :: _, 0, _ => .inl rfl
  | _ :: r, i + 1, s => by
    rcases sget_eq r i s with h | ⟨h, l⟩
    · exact .inl h
    · exact .inr ⟨h, by simpa using l⟩
theorem sget_big : ∀ (A : AS) (i : Nat), A.length ≤ i → sget A i = .un
  | [], _, _ => rfl
  | _ :: r, 0, h => by simp at h
  | _ :: r, i + 1, h => sget_big r i (by simpa using h)

/-- the ground of a def's run: what the caller had -/
structure Rt where
  K : PySem.W.Frag
  G0 : Hp
  H0 : Hp
  xa : Addr
  xc : Nat
  xf : List D
def SlOk (R : Rt) (G H : Hp) (s : Sl) (o : Option (Option V)) : Prop :=
  match s with
  | .un => True
  | .xn c fs => o = some (some (.ref R.xa)) ∧ c = R.xc ∧ fs = R.xf
  | .fz d => ∃ v, o = some (some v) ∧ Rp R.K G d v
  | .ow d => ∃ a, o = some (some (.ref a)) ∧ G a = none ∧ R.H0 a = none ∧ OwnAt R.K G H a d
  | .lk d => ∃ a, o = some (some (.ref a)) ∧ G a = none ∧ R.H0 a = none ∧ OwnAt R.K G H a d
def Sl.isOwn : Sl → Bool
  | .ow _ => true
  | .lk _ => true
  | _ => false
structure Step (G H G' H' : Hp) : Prop where
  sH : Same H H'
  sG : Same G G'
  le : Same G' H'
  new : ∀ a, G' a ≠ none → G a ≠ none ∨ H a = none
theorem Step.refl {G H : Hp} (h : Same G H) : Step G H G H := ⟨Same.refl _, Same.refl _, h, fun _ h => .inl h⟩
theorem Step.trans {G H G1 H1 G2 H2 : Hp} (a : Step G H G1 H1) (b : Step G1 H1 G2 H2) : Step G H G2 H2 :=
  ⟨a.sH.trans b.sH, a.sG.trans b.sG, b.le, fun x h => by
    rcases b.new x h with h | h
    · exact a.new x h
    · exact .inr (a.sH.free h)⟩
structure StOk (R : Rt) (A : AS) (σ : ST) (H G : Hp) : Prop where
  step : Step R.G0 R.H0 G H
  len : A.length = σ.length
  at_ : ∀ i, SlOk R G H (sget A i) σ[i]?
  inj : ∀ i j a, (sget A i).isOwn = true → (sget A j).isOwn = true → σ[i]? = some (some (.ref a)) → σ[j]? = some (some (.ref a)) → i = j

theorem SlOk.mono {R : Rt} {G H G' H' : Hp} {s : Sl} {o : Option (Option V)} (h : SlOk R G H s o) (sG : Same G G') (k : ∀ a, s.isOwn = true → o = some (some (.ref a)) → G a = none → (∃ x, H a = some x) → G' a = none ∧ H' a = H a) : SlOk R G' H' s o := by
  cases s with
  | un => trivial
  | xn _ _ => exact h
  | fz d => obtain ⟨v, e, r⟩ := h; exact ⟨v, e, r.mono sG⟩
  | ow d =>
    obtain ⟨a, e, g, h0, ow⟩ := h
    obtain ⟨k1, k2⟩ := k a rfl e g ow.some
    exact ⟨a, e, k1, h0, ow.mono sG k2⟩
  | lk d =>
    obtain ⟨a, e, g, h0, ow⟩ := h
    obtain ⟨k1, k2⟩ := k a rfl e g ow.some
    exact ⟨a, e, k1, h0, ow.mono sG k2⟩
theorem Step.free {G H G' H' : Hp} (p : Step G H G' H') {a : Addr} (g : G a = none) (e : ∃ x, H a = some x) : G' a = none ∧ H' a = H a := by
  obtain ⟨x, e⟩ := e
  refine ⟨?_, by rw [e]; exact p.sH _ _ e⟩
  cases q : G' a with
  | none => rfl
  | some z =>
    rcases p.new a (by rw [q]; exact fun h => nomatch h) with h | h
    · exact absurd g h
    · rw [e] at h; cases h
theorem StOk.next {R : Rt} {A : AS} {σ : ST} {H G H' G' : Hp} (s : StOk R A σ H G) (p : Step G H G' H') : StOk R A σ H' G' :=
  ⟨s.step.trans p, s.len, fun i => (s.at_ i).mono p.sG fun a _ _ g e => p.free g e, s.inj⟩
/-- a new frozen object -/
theorem Step.lay {G H : Hp} {p : Addr} {o : HO} (h : Same G H) (n : H p = none) : Step G H (upd G p o) (upd H p o) := by
  have gn : G p = none := h.free n
  refine ⟨fun b x e => ?_, fun b x e => ?_, fun b x e => ?_, fun b hb => ?_⟩
  · rw [upd_ne (ne_of_none e n)]; exact e
  · rw [upd_ne (ne_of_none e gn)]; exact e
  · by_cases q : b = p
    · subst q; rw [upd_same] at e ⊢; exact e
    · rw [upd_ne q] at e ⊢; exact h _ _ e
  · by_cases q : b = p
    · subst q; exact .inr n
    · rw [upd_ne q] at hb; exact .inl hb
/-- a new object that is not frozen -/
theorem Step.tmp {G H : Hp} {p : Addr} {o : HO} (h : Same G H) (n : H p = none) : Step G H G (upd H p o) :=
  ⟨fun b x e => by rw [upd_ne (ne_of_none e n)]; exact e, Same.refl _, fun b x e => by rw [upd_ne (ne_of_none (h _ _ e) n)]; exact h _ _ e, fun _ h => .inl h⟩

/-- a value in hand: frozen, a new object of nobody's, the object of a slot -/
inductive Vm where
  | fz (d : D) | tmp (d : D) | sl (i : Nat)
def VR (R : Rt) (A : AS) (σ : ST) (H G : Hp) : Vm → V → Prop
  | .fz d, x => Rp R.K G d x
  | .tmp d, x => ∃ a, x = .ref a ∧ G a = none ∧ R.H0 a = none ∧ OwnAt R.K G H a d ∧ ∀ i, (sget A i).isOwn = true → σ[i]? ≠ some (some (.ref a))
  | .sl i, x => σ[i]? = some (some x)
/-- the result of a call, of an operation -/
inductive FR where
  | ok (d : D) (own : Bool) | exc (c : Nat) (fs : List D) | fail
def VF (K : PySem.W.Frag) (G' H H' : Hp) (d : D) (own : Bool) (x : V) : Prop :=
  match own with
  | false => Rp K G' d x
  | true => ∃ a, x = .ref a ∧ H a = none ∧ G' a = none ∧ OwnAt K G' H' a d
/-- the errors: their classes, the names of their fields -/
structure Tb where
  cls : Nat → Option (Addr × List Str)
def XR (T : Tb) (K : PySem.W.Frag) (G H : Hp) (c : Nat) (fs : List D) (cls : Value) (d : Option Addr) : Prop :=
  ∃ C ns dx vs, T.cls c = some (C, ns) ∧ cls = .ref C ∧ d = some dx ∧ ns.length = fs.length ∧ H dx = some (.xd (ns.zip vs)) ∧ RpL K G fs vs
def RES (T : Tb) (K : PySem.W.Frag) (G H : Hp) (r : FR) (Q : VK) (E : XK) : Prop :=
  match r with
  | .ok d own => ∀ z H' G', Step G H G' H' → VF K G' H H' d own z → Q z H'
  | .exc c fs => ∀ cls dx H' G', Step G H G' H' → XR T K G' H' c fs cls dx → E cls dx H'
  | .fail => False
/-- a def's promise -/
def spF (T : Tb) (K : PySem.W.Frag) (n : Nat) (F : List D → FR) : Sp := fun vs H Q E => vs.length = n ∧ ∃ G ds, Same G H ∧ RpL K G ds vs ∧ RES T K G H (F ds) Q E

/-! ### expressions -/
inductive ER where
  | ok (v : Vm) (A : AS) | exc (c : Nat) (fs : List D) (A : AS) | fail
def KeepA (A A' : AS) : Prop := ∀ i d, sget A i = .lk d → sget A' i = .lk d
theorem KeepA.refl (A : AS) : KeepA A A := fun _ _ h => h
theorem KeepA.trans {A B C : AS} (a : KeepA A B) (b : KeepA B C) : KeepA A C := fun i d h => b i d (a i d h)
def PostE (T : Tb) (R : Rt) (W : WX) (A : AS) (G : Hp) (σ : ST) (Q : VK) (r : ER) : Prop :=
  match r with
  | .ok v A' => ∀ x H' G', Same G G' → StOk R A' σ H' G' → KeepA A A' → VR R A' σ H' G' v x → Q x H'
  | .exc c fs A' => ∀ cls dx H' G', Same G G' → StOk R A' σ H' G' → XR T R.K G' H' c fs cls dx → W cls dx σ H'
  | .fail => False
def tE (T : Tb) (R : Rt) (W : WX) (f : AS → ER) : TE := fun σ H Q => ∃ A G, StOk R A σ H G ∧ PostE T R W A G σ Q (f A)
theorem pe_imp {X : Cx} {e : Expr} {t t' : TE} (h : PE X e t) (w : ∀ σ H Q, t' σ H Q → t σ H Q) : PE X e t' := ⟨fun pins s σ H Q I q => h.run pins s σ H Q I (w σ H Q q)⟩

def eVar (i : Nat) : AS → ER := fun A => match sget A i with
  | .un => .fail
  | .xn _ _ => .fail
  | .fz d => .ok (.fz d) A
  | .ow _ => .ok (.sl i) A
  | .lk _ => .ok (.sl i) A
def eC (d : D) : AS → ER := fun A => .ok (.fz d) A

theorem StOk.own_none {R : Rt} {A : AS} {σ : ST} {H G : Hp} (s : StOk R A σ H G) {i : Nat} {a : Addr} (o : (sget A i).isOwn = true) (e : σ[i]? = some (some (.ref a))) : G a = none ∧ R.H0 a = none ∧ ∃ x, H a = some x := by
  have h := s.at_ i
  cases q : sget A i with
  | un => rw [q] at o; exact nomatch o
  | xn _ _ => rw [q] at o; exact nomatch o
  | fz d => rw [q] at o; exact nomatch o
  | ow d =>
    rw [q] at h
    obtain ⟨b, e1, g, h0, w⟩ := h
    rw [e] at e1; cases e1
    exact ⟨g, h0, w.some⟩
  | lk d =>
    rw [q] at h
    obtain ⟨b, e1, g, h0, w⟩ := h
    rw [e] at e1; cases e1
    exact ⟨g, h0, w.some⟩
/-- an object of one's own is frozen -/
theorem StOk.frz {R : Rt} {A A' : AS} {σ : ST} {H G : Hp} {a : Addr} {o : HO} (s : StOk R A σ H G) (g : G a = none) (h0 : R.H0 a = none) (e : H a = some o)
    (hl : A'.length = A.length) (hi : ∀ j, (sget A' j).isOwn = true → (sget A j).isOwn = true) (hn : ∀ j, (sget A' j).isOwn = true → σ[j]? ≠ some (some (.ref a)))
    (hA : ∀ j, sget A' j = sget A j ∨ SlOk R (upd G a o) H (sget A' j) σ[j]?) : StOk R A' σ H (upd G a o) ∧ Same G (upd G a o) := by
  have sg : Same G (upd G a o) := fun b x q => by rw [upd_ne (ne_of_none q g)]; exact q
  refine ⟨⟨⟨s.step.sH, s.step.sG.trans sg, fun b x q => ?_, fun b q => ?_⟩, hl.trans s.len, fun j => ?_, fun i j b x y => s.inj i j b (hi i x) (hi j y)⟩, sg⟩
  · by_cases c : b = a
    · subst c; rw [upd_same] at q; rw [e]; exact q
    · rw [upd_ne c] at q; exact s.step.le _ _ q
  · by_cases c : b = a
    · subst c; exact .inr h0
    · rw [upd_ne c] at q; exact s.step.new b q
  · rcases hA j with q | q
    · rw [q]
      refine (s.at_ j).mono sg fun b ob eb gb _ => ⟨?_, rfl⟩
      have hne : b ≠ a := fun z => by subst z; exact hn j (by rw [q]; exact ob) eb
      rw [upd_ne hne]; exact gb
    · exact q

def hold : Vm → Vm
  | .tmp d => .fz d
  | v => v
def Vm.held : Vm → Bool
  | .tmp _ => false
  | _ => true
theorem hold_held (v : Vm) : (hold v).held = true := by cases v <;> rfl
theorem OwnAt.rp {K : PySem.W.Frag} {G H : Hp} {a : Addr} {d : D} (h : OwnAt K G H a d) (g : G a = none) : ∃ o, H a = .some o ∧ Rp K (upd G a o) d (.ref a) := by
  have sg : ∀ o, Same G (upd G a o) := fun o b x q => by rw [upd_ne (ne_of_none q g)]; exact q
  cases d with
  | lst ds => obtain ⟨vs, h1, h2⟩ := h; exact ⟨_, h1, .lst upd_same (h2.mono (sg _))⟩
  | dic ds => obtain ⟨vs, h1, h2⟩ := h; exact ⟨_, h1, .dic upd_same (h2.mono (sg _))⟩
  | _ => exact h.elim
theorem hold_ok {R : Rt} {A : AS} {σ : ST} {H G : Hp} {v : Vm} {x : V} (s : StOk R A σ H G) (r : VR R A σ H G v x) : ∃ G', Same G G' ∧ StOk R A σ H G' ∧ VR R A σ H G' (hold v) x := by
  cases v with
  | fz d => exact ⟨G, Same.refl _, s, r⟩
  | sl i => exact ⟨G, Same.refl _, s, r⟩
  | tmp d =>
    obtain ⟨a, e, g, h0, w, n⟩ := r
    subst e
    obtain ⟨o, e, rp⟩ := w.rp g
    obtain ⟨s', sg⟩ := s.frz (A' := A) g h0 e rfl (fun _ h => h) n fun j => .inl rfl
    exact ⟨_, sg, s', rp⟩
theorem VR.keep {R : Rt} {A A' : AS} {σ : ST} {H G H' G' : Hp} {v : Vm} {x : V} (r : VR R A σ H G v x) (hv : v.held = true) (sg : Same G G') : VR R A' σ H' G' v x := by
  cases v with
  | fz d => exact Rp.mono sg r
  | sl i => exact r
  | tmp d => exact nomatch hv

def settle (v : Vm) (A : AS) : Option (D × AS) :=
  match v with
  | .fz d => some (d, A)
  | .tmp d => some (d, A)
  | .sl i => match sget A i with
    | .fz d => some (d, A)
    | .ow d => some (d, sset A i (.fz d))
    | _ => none
theorem sset_keepA {A : AS} {i : Nat} {s : Sl} (h : ∀ d, sget A i ≠ .lk d) : KeepA A (sset A i s) := fun j d e => by
  by_cases c : i = j
  · subst c; exact absurd e (h d)
  · rw [sget_ne _ _ _ _ c]; exact e
theorem settle_ok {R : Rt} {A A' : AS} {σ : ST} {H G : Hp} {v : Vm} {x : V} {d : D} (s : StOk R A σ H G) (r : VR R A σ H G v x) (h : settle v A = some (d, A')) :
    ∃ G', Same G G' ∧ StOk R A' σ H G' ∧ Rp R.K G' d x ∧ KeepA A A' := by
  cases v with
  | fz d' => cases h; exact ⟨G, Same.refl _, s, r, KeepA.refl _⟩
  | tmp d' =>
    cases h
    obtain ⟨G', a, b, c⟩ := hold_ok s r
    exact ⟨G', a, b, c, KeepA.refl _⟩
  | sl i =>
    have at_ := s.at_ i
    have e : σ[i]? = some (some x) := r
    dsimp only [settle] at h
    cases q : sget A i with
    | un => rw [q] at h; exact nomatch h
    | xn _ _ => rw [q] at h; exact nomatch h
    | lk d' => rw [q] at h; exact nomatch h
    | fz d' =>
      rw [q] at h at_
      cases h
      obtain ⟨v, e1, rp⟩ := at_
      rw [e] at e1; cases e1
      exact ⟨G, Same.refl _, s, rp, KeepA.refl _⟩
    | ow d' =>
      rw [q] at h at_
      cases h
      obtain ⟨a, e1, g, h0, w⟩ := at_
      rw [e] at e1; cases e1
      obtain ⟨o, eo, rp⟩ := w.rp g
      have own_i : (sget A i).isOwn = true := by rw [q]; rfl
      have hb : ∀ j, (sget (sset A i (.fz d)) j).isOwn = true → j ≠ i ∧ (sget A j).isOwn = true := fun j hj => by
        by_cases c : i = j
        · subst c
          rcases sget_eq A i (.fz d) with z | ⟨z, _⟩ <;> rw [z] at hj <;> exact nomatch hj
        · rw [sget_ne _ _ _ _ c] at hj; exact ⟨Ne.symm c, hj⟩
      obtain ⟨s', sg⟩ := s.frz (A' := sset A i (.fz d)) g h0 eo (sset_len _ _ _) (fun j hj => (hb j hj).2) (fun j hj z => (hb j hj).1 (s.inj j i a (hb j hj).2 own_i z e)) fun j => by
        by_cases c : i = j
        · subst c
          rcases sget_eq A i (.fz d) with z | ⟨z, l⟩
          · rw [z]; exact .inr ⟨_, e, rp⟩
          · rw [z]; exact .inr trivial
        · exact .inl (sget_ne _ _ _ _ c)
      exact ⟨_, sg, s', rp, sset_keepA fun d z => by rw [q] at z; cases z⟩

/-- what is read of a value -/
def cont (v : Vm) (A : AS) : Option D :=
  match v with
  | .fz d => some d
  | .tmp d => some d
  | .sl i => match sget A i with
    | .fz d => some d
    | .ow d => some d
    | .lk d => some d
    | .un => none
    | .xn _ _ => none
def RpB (K : PySem.W.Frag) (G H : Hp) (d : D) (x : V) : Prop := Rp K G d x ∨ ∃ a, x = .ref a ∧ OwnAt K G H a d
theorem cont_ok {R : Rt} {A : AS} {σ : ST} {H G : Hp} {v : Vm} {x : V} {d : D} (s : StOk R A σ H G) (r : VR R A σ H G v x) (h : cont v A = some d) : RpB R.K G H d x := by
  cases v with
  | fz d' => cases h; exact .inl r
  | tmp d' => cases h; obtain ⟨a, e, g, h0, w, n⟩ := r; exact .inr ⟨a, e, w⟩
  | sl i =>
    have at_ := s.at_ i
    have e : σ[i]? = some (some x) := r
    dsimp only [cont] at h
    cases q : sget A i with
    | un => rw [q] at h; exact nomatch h
    | xn _ _ => rw [q] at h; exact nomatch h
    | fz d' =>
      rw [q] at h at_
      cases h
      obtain ⟨v, e1, rp⟩ := at_
      rw [e] at e1; cases e1
      exact .inl rp
    | ow d' =>
      rw [q] at h at_
      cases h
      obtain ⟨a, e1, g, h0, w⟩ := at_
      rw [e] at e1; cases e1
      exact .inr ⟨a, rfl, w⟩
    | lk d' =>
      rw [q] at h at_
      cases h
      obtain ⟨a, e1, g, h0, w⟩ := at_
      rw [e] at e1; cases e1
      exact .inr ⟨a, rfl, w⟩

/-! ### lists of values in hand -/
inductive VRL (R : Rt) (A : AS) (σ : ST) (H G : Hp) : List Vm → List V → Prop
  | nil : VRL R A σ H G [] []
  | cons {v : Vm} {x : V} {vs : List Vm} {xs : List V} : v.held = true → VR R A σ H G v x → VRL R A σ H G vs xs → VRL R A σ H G (v :: vs) (x :: xs)
theorem VRL.len {R : Rt} {A : AS} {σ : ST} {H G : Hp} : ∀ {vs : List Vm} {xs : List V}, VRL R A σ H G vs xs → vs.length = xs.length
  | _, _, .nil => rfl
  | _, _, .cons _ _ t => by simp [VRL.len t]
theorem VRL.keep {R : Rt} {A A' : AS} {σ : ST} {H G H' G' : Hp} (sg : Same G G') : ∀ {vs : List Vm} {xs : List V}, VRL R A σ H G vs xs → VRL R A' σ H' G' vs xs
  | _, _, .nil => .nil
  | _, _, .cons h r t => .cons h (r.keep h sg) (VRL.keep sg t)
def contL (A : AS) : List Vm → Option (List D)
  | [] => some []
  | v :: r => match cont v A with
    | none => none
    | some d => match contL A r with
      | none => none
      | some ds => some (d :: ds)
inductive RpBL (K : PySem.W.Frag) (G H : Hp) : List D → List V → Prop
  | nil : RpBL K G H [] []
  | cons {d : D} {x : V} {ds : List D} {xs : List V} : RpB K G H d x → RpBL K G H ds xs → RpBL K G H (d :: ds) (x :: xs)
theorem contL_ok {R : Rt} {A : AS} {σ : ST} {H G : Hp} (s : StOk R A σ H G) : ∀ {vs : List Vm} {xs : List V} {ds : List D}, VRL R A σ H G vs xs → contL A vs = some ds → RpBL R.K G H ds xs
  | _, _, _, .nil, h => by cases h; exact .nil
  | v :: vs, _, ds, .cons hv r t, h => by
    unfold contL at h
    cases q : cont v A with
    | none => rw [q] at h; exact nomatch h
    | some d =>
      rw [q] at h
      cases q2 : contL A vs with
      | none => rw [q2] at h; exact nomatch h
      | some es => rw [q2] at h; cases h; exact .cons (cont_ok s r q) (contL_ok s t q2)
def settleL : List Vm → AS → Option (List D × AS)
  | [], A => some ([], A)
  | v :: r, A => match settle v A with
    | none => none
    | some (d, A1) => match settleL r A1 with
      | none => none
      | some (ds, A2) => some (d :: ds, A2)
theorem settleL_ok {R : Rt} {σ : ST} {H : Hp} : ∀ {vs : List Vm} {A A' : AS} {G : Hp} {xs : List V} {ds : List D}, StOk R A σ H G → VRL R A σ H G vs xs → settleL vs A = some (ds, A') →
    ∃ G', Same G G' ∧ StOk R A' σ H G' ∧ RpL R.K G' ds xs ∧ KeepA A A'
  | [], A, _, G, _, _, s, .nil, h => by cases h; exact ⟨G, Same.refl _, s, .nil, KeepA.refl _⟩
  | v :: vs, A, A', G, _, ds, s, .cons hv r t, h => by
    unfold settleL at h
    cases q : settle v A with
    | none => rw [q] at h; exact nomatch h
    | some p =>
      obtain ⟨d, A1⟩ := p
      rw [q] at h
      obtain ⟨G1, g1, s1, r1, k1⟩ := settle_ok s r q
      dsimp only at h
      cases q2 : settleL vs A1 with
      | none => rw [q2] at h; exact nomatch h
      | some p2 =>
        obtain ⟨es, A2⟩ := p2
        rw [q2] at h
        cases h
        obtain ⟨G2, g2, s2, r2, k2⟩ := settleL_ok s1 (t.keep g1) q2
        exact ⟨G2, g1.trans g2, s2, .cons (r1.mono g2) r2, k1.trans k2⟩

/-! ### argument lists -/
inductive AR where
  | ok (vs : List Vm) (A : AS) | exc (c : Nat) (fs : List D) (A : AS) | fail
def PostA (T : Tb) (R : Rt) (W : WX) (A : AS) (G : Hp) (σ : ST) (Q : List V → Hp → Prop) (r : AR) : Prop :=
  match r with
  | .ok vs A' => ∀ xs H' G', Same G G' → StOk R A' σ H' G' → KeepA A A' → VRL R A' σ H' G' vs xs → Q xs H'
  | .exc c fs A' => ∀ cls dx H' G', Same G G' → StOk R A' σ H' G' → XR T R.K G' H' c fs cls dx → W cls dx σ H'
  | .fail => False
def tA (T : Tb) (R : Rt) (W : WX) (f : AS → AR) : TA := fun σ H Q => ∃ A G, StOk R A σ H G ∧ PostA T R W A G σ Q (f A)
theorem pa_imp {X : Cx} {es : List Expr} {t t' : TA} (h : PA X es t) (w : ∀ σ H Q, t' σ H Q → t σ H Q) : PA X es t' := ⟨fun pos pins s σ H Q I q => h.run pos pins s σ H Q I (w σ H Q q)⟩
def aNil : AS → AR := fun A => .ok [] A
def aCons (f : AS → ER) (g : AS → AR) : AS → AR := fun A => match f A with
  | .ok v A1 => match g A1 with
    | .ok vs A2 => .ok (hold v :: vs) A2
    | r => r
  | .exc c fs A1 => .exc c fs A1
  | .fail => .fail
section
variable {X : Cx} {T : Tb} {R : Rt} {W : WX} {pos : Pos}
theorem sa_nil : PA X [] (tA T R W aNil) := pa_imp pa_nil fun σ H Q ⟨A, G, s, p⟩ => p [] H G (Same.refl _) s (KeepA.refl _) .nil
theorem sa_cons {e : Expr} {es : List Expr} {f : AS → ER} {g : AS → AR} (ha : PE X e (tE T R W f)) (hr : PA X es (tA T R W g)) (hs : starEach (e :: es) X.env = (false, eval e X.env) :: starEach es X.env := by rfl) :
    PA X (e :: es) (tA T R W (aCons f g)) := pa_imp (pa_cons ha hr hs) fun σ H Q ⟨A, G, s, p⟩ => by
  refine ⟨A, G, s, ?_⟩
  unfold aCons at p
  cases q : f A with
  | fail => rw [q] at p; exact p
  | exc c fs A1 => rw [q] at p; exact p
  | ok v A1 =>
    rw [q] at p
    intro x H1 G1 g1 s1 k1 r1
    obtain ⟨G2, g2, s2, r2⟩ := hold_ok s1 r1
    refine ⟨A1, G2, s2, ?_⟩
    dsimp only at p
    cases q2 : g A1 with
    | fail => rw [q2] at p; exact p
    | exc c fs A2 =>
      rw [q2] at p
      intro cls dx H3 G3 g3 s3 xr
      exact p cls dx H3 G3 ((g1.trans g2).trans g3) s3 xr
    | ok vs A2 =>
      rw [q2] at p
      intro xs H3 G3 g3 s3 k3 r3
      exact p (x :: xs) H3 G3 ((g1.trans g2).trans g3) s3 (k1.trans k3) (.cons (hold_held v) (r2.keep (hold_held v) g3) r3)

/-! ### names, constants -/
theorem se_var {i : Nat} {x : Str} (h : PE X (.Name x pos) (tVar i)) : PE X (.Name x pos) (tE T R W (eVar i)) := pe_imp h fun σ H Q ⟨A, G, s, p⟩ => by
  have at_ := s.at_ i
  unfold eVar at p
  cases q : sget A i with
  | un => rw [q] at p; exact p.elim
  | xn _ _ => rw [q] at p; exact p.elim
  | fz d =>
    rw [q] at p at_
    obtain ⟨v, e, r⟩ := at_
    exact ⟨v, e, p v H G (Same.refl _) s (KeepA.refl _) r⟩
  | ow d =>
    rw [q] at p at_
    obtain ⟨a, e, r⟩ := at_
    exact ⟨_, e, p _ H G (Same.refl _) s (KeepA.refl _) e⟩
  | lk d =>
    rw [q] at p at_
    obtain ⟨a, e, r⟩ := at_
    exact ⟨_, e, p _ H G (Same.refl _) s (KeepA.refl _) e⟩
theorem se_c {e : Expr} {v : V} {d : D} (h : PE X e (tC v)) (r : ∀ G, Rp R.K G d v) : PE X e (tE T R W (eC d)) := pe_imp h fun σ H Q ⟨A, G, s, p⟩ => p v H G (Same.refl _) s (KeepA.refl _) (r G)
theorem se_int {i : Int} {j : Nat} : PE X (.Constant (.int i) j pos) (tE T R W (eC (.int i))) := se_c pe_int fun _ => .int i
theorem se_bl {b : Bool} {j : Nat} : PE X (.Constant (.bool b) j pos) (tE T R W (eC (.bl b))) := se_c pe_bl fun _ => .bl b
theorem se_non {j : Nat} : PE X (.Constant .none j pos) (tE T R W (eC .non)) := se_c pe_non fun _ => .non
theorem se_str {x : Str} {j : Nat} : PE X (.Constant (.str x) j pos) (tE T R W (eC (.str x))) := se_c pe_str fun _ => .str x

/-! ### from a result to the end -/
def mkV (d : D) (own : Bool) : Vm := match own with
  | true => .tmp d
  | false => .fz d
theorem vf_vr {A : AS} {σ : ST} {G H G' H' : Hp} {d : D} {own : Bool} {z : V} (s : StOk R A σ H G) (p : Step G H G' H') (v : VF R.K G' H H' d own z) : VR R A σ H' G' (mkV d own) z := by
  cases own with
  | false => exact v
  | true =>
    obtain ⟨a, e, n, g, w⟩ := v
    refine ⟨a, e, g, s.step.sH.free n, w, fun i oi ei => ?_⟩
    obtain ⟨_, _, x, hx⟩ := s.own_none oi ei
    rw [n] at hx; cases hx
/-- a result, with the state as it stands -/
def eRes (r : FR) (A : AS) : ER := match r with
  | .ok d own => .ok (mkV d own) A
  | .exc c fs => .exc c fs A
  | .fail => .fail
theorem res_of {A A0 : AS} {σ : ST} {G H G0 : Hp} {r : FR} {Q : VK} (s : StOk R A σ H G) (g : Same G0 G) (k : KeepA A0 A) (p : PostE T R W A0 G0 σ Q (eRes r A)) : RES T R.K G H r Q (fun cls d H' => W cls d σ H') := by
  cases r with
  | fail => exact p
  | ok d own => intro z H' G' st v; exact p z H' G' (g.trans st.sG) (s.next st) k (vf_vr s st v)
  | exc c fs => intro cls dx H' G' st xr; exact p cls dx H' G' (g.trans st.sG) (s.next st) xr
/-- a result that is no error -/
def noX : FR → FR
  | .exc _ _ => .fail
  | r => r
theorem res_noX {A A0 : AS} {σ : ST} {G H G0 : Hp} {r : FR} {Q : VK} {E : XK} (s : StOk R A σ H G) (g : Same G0 G) (k : KeepA A0 A) (p : PostE T R W A0 G0 σ Q (eRes (noX r) A)) : RES T R.K G H r Q E := by
  cases r with
  | fail => exact p
  | ok d own => exact res_of (W := W) s g k p
  | exc c fs => exact p.elim

/-! ### a call of a def -/
def eCall (F : List D → FR) (f : AS → AR) : AS → ER := fun A => match f A with
  | .ok vs A1 => match settleL vs A1 with
    | some (ds, A2) => eRes (F ds) A2
    | none => .fail
  | .exc c fs A1 => .exc c fs A1
  | .fail => .fail
theorem se_callT {e : Expr} {n : Nat} {F : List D → FR} {f : AS → AR} {ta : TA} (h : PE X e (tCallSD (spF T R.K n F) [] (WE W) (tA T R W f))) (hn : ∀ vs A A1, f A = .ok vs A1 → vs.length = n) : PE X e (tE T R W (eCall F f)) := pe_imp h fun σ H Q ⟨A, G, s, p⟩ => by
  refine ⟨A, G, s, ?_⟩
  unfold eCall at p
  cases q : f A with
  | fail => rw [q] at p; exact p
  | exc c fs A1 => rw [q] at p; exact p
  | ok vs A1 =>
    rw [q] at p
    intro xs H1 G1 g1 s1 k1 r1
    dsimp only at p
    cases q2 : settleL vs A1 with
    | none => rw [q2] at p; exact p.elim
    | some y =>
      obtain ⟨ds, A2⟩ := y
      rw [q2] at p
      obtain ⟨G2, g2, s2, r2, k2⟩ := settleL_ok s1 r1 q2
      refine ⟨?_, G2, ds, s2.step.le, by rw [List.append_nil]; exact r2, res_of s2 (g1.trans g2) (k1.trans k2) p⟩
      rw [List.append_nil, ← hn vs A A1 q]
      exact r1.len.symm
end
end MR

namespace MR
open PySem PySem.Spec PyProof.Rows L2

/-! ### arities -/
def Ar (f : AS → AR) (n : Nat) : Prop := ∀ vs A A1, f A = .ok vs A1 → vs.length = n
theorem ar_nil : Ar aNil 0 := fun vs A A1 h => by cases h; rfl
theorem ar_cons {f : AS → ER} {g : AS → AR} {n : Nat} (h : Ar g n) : Ar (aCons f g) (n + 1) := fun vs A A1 e => by
  unfold aCons at e
  cases q : f A with
  | fail => rw [q] at e; exact nomatch e
  | exc c fs A1 => rw [q] at e; exact nomatch e
  | ok v B =>
    rw [q] at e
    dsimp only at e
    cases q2 : g B with
    | fail => rw [q2] at e; exact nomatch e
    | exc c fs A1 => rw [q2] at e; exact nomatch e
    | ok ws B2 => rw [q2] at e; cases e; simp [h _ _ _ q2]
section
variable {X : Cx} {T : Tb} {R : Rt} {W : WX} {pos : Pos}
/-! ### displays -/
def eTup (f : AS → AR) : AS → ER := fun A => match f A with
  | .ok vs A1 => match settleL vs A1 with
    | some (ds, A2) => .ok (.fz (.tup ds)) A2
    | none => .fail
  | .exc c fs A1 => .exc c fs A1
  | .fail => .fail
def eLst (f : AS → AR) : AS → ER := fun A => match f A with
  | .ok vs A1 => match settleL vs A1 with
    | some (ds, A2) => .ok (.tmp (.lst ds)) A2
    | none => .fail
  | .exc c fs A1 => .exc c fs A1
  | .fail => .fail
theorem se_tup {es : List Expr} {x1} {f : AS → AR} {n : Nat} (h : PA X es (tA T R W f)) (ha : Ar f n) (hz : n ≤ sizeLine) : PE X (.Tuple es x1 pos) (tE T R W (eTup f)) := pe_imp (pe_tup h) fun σ H Q ⟨A, G, s, p⟩ => by
  refine ⟨A, G, s, ?_⟩
  unfold eTup at p
  cases q : f A with
  | fail => rw [q] at p; exact p
  | exc c fs A1 => rw [q] at p; exact p
  | ok vs A1 =>
    rw [q] at p
    intro xs H1 G1 g1 s1 k1 r1
    dsimp only at p
    cases q2 : settleL vs A1 with
    | none => rw [q2] at p; exact p.elim
    | some y =>
      obtain ⟨ds, A2⟩ := y
      rw [q2] at p
      obtain ⟨G2, g2, s2, r2, k2⟩ := settleL_ok s1 r1 q2
      refine ⟨by rw [← r1.len, ha _ _ _ q]; exact hz, fun a na => ?_⟩
      have st := Step.lay (o := .tup xs) s2.step.le na
      exact p _ _ _ ((g1.trans g2).trans st.sG) (s2.next st) (k1.trans k2) (.tup (.inl (.inl upd_same)) (r2.mono st.sG))
theorem se_lst {es : List Expr} {f : AS → AR} {n : Nat} (h : PA X es (tA T R W f)) (ha : Ar f n) (hz : n ≤ sizeLine) : PE X (.List es pos) (tE T R W (eLst f)) := pe_imp (pe_lst h) fun σ H Q ⟨A, G, s, p⟩ => by
  refine ⟨A, G, s, ?_⟩
  unfold eLst at p
  cases q : f A with
  | fail => rw [q] at p; exact p
  | exc c fs A1 => rw [q] at p; exact p
  | ok vs A1 =>
    rw [q] at p
    intro xs H1 G1 g1 s1 k1 r1
    dsimp only at p
    cases q2 : settleL vs A1 with
    | none => rw [q2] at p; exact p.elim
    | some y =>
      obtain ⟨ds, A2⟩ := y
      rw [q2] at p
      obtain ⟨G2, g2, s2, r2, k2⟩ := settleL_ok s1 r1 q2
      refine ⟨by rw [← r1.len, ha _ _ _ q]; exact hz, fun a na => ?_⟩
      have st := Step.tmp (o := .lst xs) s2.step.le na
      have vf : VF R.K G2 H1 (upd H1 a (.lst xs)) (.lst ds) true (.ref a) := ⟨a, rfl, na, s2.step.le.free na, xs, upd_same, r2⟩
      exact p _ _ _ (g1.trans g2) (s2.next st) (k1.trans k2) (vf_vr s2 st vf)

/-! ### built-in calls, operators -/
def RN (K : PySem.W.Frag) (G H : Hp) (r : FR) (Q : VK) : Prop :=
  match r with
  | .ok d own => ∀ z H' G', Step G H G' H' → VF K G' H H' d own z → Q z H'
  | _ => False
theorem rn_of {A A0 : AS} {σ : ST} {G H G0 : Hp} {r : FR} {Q : VK} (s : StOk R A σ H G) (g : Same G0 G) (k : KeepA A0 A) (p : PostE T R W A0 G0 σ Q (eRes (noX r) A)) : RN R.K G H r Q := by
  cases r with
  | fail => exact p
  | ok d own => intro z H' G' st v; exact p z H' G' (g.trans st.sG) (s.next st) k (vf_vr s st v)
  | exc c fs => exact p.elim
/-- a scalar as a result -/
theorem RN.sc {K : PySem.W.Frag} {G H : Hp} {d : D} {z : V} {Q : VK} (p : RN K G H (.ok d false) Q) (h : Same G H) (r : Rp K G d z) : Q z H := p z H G (Step.refl h) r
def rB (K : PySem.W.Frag) (B : List D → FR) : List V → Hp → VK → Prop := fun xs H Q => ∃ G ds, Same G H ∧ RpBL K G H ds xs ∧ RN K G H (B ds) Q
def rO (K : PySem.W.Frag) (op : D → D → FR) : R2 := fun x y H Q => ∃ G d e, Same G H ∧ RpB K G H d x ∧ RpB K G H e y ∧ RN K G H (op d e) Q
def rU1 (K : PySem.W.Frag) (op : D → FR) : V → Hp → VK → Prop := fun x H Q => ∃ G d, Same G H ∧ RpB K G H d x ∧ RN K G H (op d) Q
def eB (B : List D → FR) (f : AS → AR) : AS → ER := fun A => match f A with
  | .ok vs A1 => match contL A1 vs with
    | some ds => eRes (noX (B ds)) A1
    | none => .fail
  | .exc c fs A1 => .exc c fs A1
  | .fail => .fail
theorem se_b {e : Expr} {B : List D → FR} {f : AS → AR} (h : PE X e (tCB (rB R.K B) (tA T R W f))) : PE X e (tE T R W (eB B f)) := pe_imp h fun σ H Q ⟨A, G, s, p⟩ => by
  refine ⟨A, G, s, ?_⟩
  unfold eB at p
  cases q : f A with
  | fail => rw [q] at p; exact p
  | exc c fs A1 => rw [q] at p; exact p
  | ok vs A1 =>
    rw [q] at p
    intro xs H1 G1 g1 s1 k1 r1
    dsimp only at p
    cases q2 : contL A1 vs with
    | none => rw [q2] at p; exact p.elim
    | some ds =>
      rw [q2] at p
      exact ⟨G1, ds, s1.step.le, contL_ok s1 r1 q2, rn_of s1 g1 k1 p⟩
def eOp (op : D → D → FR) (fa fb : AS → ER) : AS → ER := fun A => match fa A with
  | .ok v A1 => match fb A1 with
    | .ok w A2 => match cont (hold v) A2 with
      | some d => match cont w A2 with
        | some e => eRes (noX (op d e)) A2
        | none => .fail
      | none => .fail
    | r => r
  | r => r
theorem op_imp {op : D → D → FR} {fa fb : AS → ER} {σ : ST} {H : Hp} {Q : VK} (h : tE T R W (eOp op fa fb) σ H Q) : tOp (rO R.K op) (tE T R W fa) (tE T R W fb) σ H Q := by
  obtain ⟨A, G, s, p⟩ := h
  refine ⟨A, G, s, ?_⟩
  unfold eOp at p
  cases q : fa A with
  | fail => rw [q] at p; exact p
  | exc c fs A1 => rw [q] at p; exact p
  | ok v A1 =>
    rw [q] at p
    intro x H1 G1 g1 s1 k1 r1
    obtain ⟨G2, g2, s2, r2⟩ := hold_ok s1 r1
    refine ⟨A1, G2, s2, ?_⟩
    dsimp only at p
    cases q2 : fb A1 with
    | fail => rw [q2] at p; exact p
    | exc c fs A2 =>
      rw [q2] at p
      intro cls dx H3 G3 g3 s3 xr
      exact p cls dx H3 G3 ((g1.trans g2).trans g3) s3 xr
    | ok w A2 =>
      rw [q2] at p
      intro y H3 G3 g3 s3 k3 r3
      dsimp only at p
      have rx : VR R A2 σ H3 G3 (hold v) x := r2.keep (hold_held v) g3
      cases q3 : cont (hold v) A2 with
      | none => rw [q3] at p; exact p.elim
      | some d =>
        rw [q3] at p
        dsimp only at p
        cases q4 : cont w A2 with
        | none => rw [q4] at p; exact p.elim
        | some e' =>
          rw [q4] at p
          exact ⟨G3, d, e', s3.step.le, cont_ok s3 rx q3, cont_ok s3 r3 q4, rn_of s3 ((g1.trans g2).trans g3) (k1.trans k3) p⟩
theorem se_op {o : Operator} {a b : Expr} {op : D → D → FR} {fa fb : AS → ER} (ho : OpR X (binaryOp o) (rO R.K op)) (ha : PE X a (tE T R W fa)) (hb : PE X b (tE T R W fb)) : PE X (.BinOp a o b pos) (tE T R W (eOp op fa fb)) :=
  pe_imp (pe_op ho ha hb) fun _ _ _ q => op_imp q
theorem se_cmp {o : CmpOp} {a b : Expr} {op : D → D → FR} {fa fb : AS → ER} (ho : OpR X (compareOp o) (rO R.K op)) (ha : PE X a (tE T R W fa)) (hb : PE X b (tE T R W fb)) (hm : behindInMarks o b = false) : PE X (.Compare a [o] [b] pos) (tE T R W (eOp op fa fb)) :=
  pe_imp (pe_cmpR ho ha hb hm) fun _ _ _ q => op_imp q
theorem se_ix {a b : Expr} {op : D → D → FR} {fa fb : AS → ER} (ho : IxR X (rO R.K op)) (ha : PE X a (tE T R W fa)) (hb : PE X b (tE T R W fb)) (hs : PlainIx b) : PE X (.Subscript a b pos) (tE T R W (eOp op fa fb)) :=
  pe_imp (pe_ix ho ha hb hs) fun _ _ _ q => op_imp q
def eU (op : D → FR) (fa : AS → ER) : AS → ER := fun A => match fa A with
  | .ok v A1 => match cont v A1 with
    | some d => eRes (noX (op d)) A1
    | none => .fail
  | r => r
theorem u_imp {op : D → FR} {fa : AS → ER} {σ : ST} {H : Hp} {Q : VK} (h : tE T R W (eU op fa) σ H Q) : tUn (rU1 R.K op) (tE T R W fa) σ H Q := by
  obtain ⟨A, G, s, p⟩ := h
  refine ⟨A, G, s, ?_⟩
  unfold eU at p
  cases q : fa A with
  | fail => rw [q] at p; exact p
  | exc c fs A1 => rw [q] at p; exact p
  | ok v A1 =>
    rw [q] at p
    intro x H1 G1 g1 s1 k1 r1
    dsimp only at p
    cases q2 : cont v A1 with
    | none => rw [q2] at p; exact p.elim
    | some d =>
      rw [q2] at p
      exact ⟨G1, d, s1.step.le, cont_ok s1 r1 q2, rn_of s1 g1 k1 p⟩

theorem se_u {o : UnaryOp} {a : Expr} {op : D → FR} {fa : AS → ER} (ho : UnR X (unaryOp o) (rU1 R.K op)) (ha : PE X a (tE T R W fa)) : PE X (.UnaryOp o a pos) (tE T R W (eU op fa)) :=
  pe_imp (pe_un ho ha) fun _ _ _ q => u_imp q
/-! ### tests -/
inductive TR where
  | ok (b : Bool) (A : AS) | exc (c : Nat) (fs : List D) (A : AS) | fail
def PostT (T : Tb) (R : Rt) (W : WX) (A : AS) (G : Hp) (σ : ST) (Q : Bool → Hp → Prop) (r : TR) : Prop :=
  match r with
  | .ok b A' => ∀ H' G', Same G G' → StOk R A' σ H' G' → KeepA A A' → Q b H'
  | .exc c fs A' => ∀ cls dx H' G', Same G G' → StOk R A' σ H' G' → XR T R.K G' H' c fs cls dx → W cls dx σ H'
  | .fail => False
def tT (T : Tb) (R : Rt) (W : WX) (f : AS → TR) : TT := fun σ H Q => ∃ A G, StOk R A σ H G ∧ PostT T R W A G σ Q (f A)
theorem pt_imp {e : Expr} {t t' : TT} (h : PT X e t) (w : ∀ σ H Q, t' σ H Q → t σ H Q) : PT X e t' := ⟨fun pins s σ H Q I q => h.run pins s σ H Q I (w σ H Q q)⟩
theorem pw_imp {e : Expr} {t t' : TT} (h : PW X e t) (w : ∀ σ H Q, t' σ H Q → t σ H Q) : PW X e t' := ⟨fun wh pins s σ H Q I q => h.run wh pins s σ H Q I (w σ H Q q)⟩
def vTst (v : Vm) (A : AS) : TR := match v with
  | .fz (.bl b) => .ok b A
  | _ => .fail
def tst (f : AS → ER) : AS → TR := fun A => match f A with
  | .ok v A1 => vTst v A1
  | .exc c fs A1 => .exc c fs A1
  | .fail => .fail
theorem tst_of {f : AS → ER} {σ : ST} {H : Hp} {Q : Bool → Hp → Prop} (h : tT T R W (tst f) σ H Q) : tE T R W f σ H fun x H' => ∃ k, x = .bl k ∧ Q k H' := by
  obtain ⟨A, G, s, p⟩ := h
  refine ⟨A, G, s, ?_⟩
  unfold tst at p
  cases q : f A with
  | fail => rw [q] at p; exact p
  | exc c fs A1 => rw [q] at p; exact p
  | ok v A1 =>
    rw [q] at p
    intro x H1 G1 g1 s1 k1 r1
    dsimp only at p
    unfold vTst at p
    split at p
    · have r1 : Rp R.K G1 (.bl _) x := r1
      cases r1
      exact ⟨_, rfl, p H1 G1 g1 s1 k1⟩
    · exact p.elim
theorem st_val {e : Expr} {f : AS → ER} (h : PE X e (tE T R W f)) (he : ∀ whole, isTrue e X.env whole = (do let v ← whole; standAt e.pos; holding [v] (truthy v)) := by intro _; rfl) : PT X e (tT T R W (tst f)) :=
  pt_imp (pt_val h he) fun σ H Q q => tst_of q
theorem st_cmp {o : CmpOp} {a b : Expr} {op : D → D → FR} {fa fb : AS → ER} (ho : OpR X (compareOp o) (rO R.K op)) (ha : PE X a (tE T R W fa)) (hb : PE X b (tE T R W fb)) (hm : behindInMarks o b = false) : PT X (.Compare a [o] [b] pos) (tT T R W (tst (eOp op fa fb))) :=
  pt_imp (pt_cmpR ho ha hb hm) fun _ _ _ q => op_imp (tst_of q)

/-! ### not, and, or, if else -/
def tNt (f : AS → TR) : AS → TR := fun A => match f A with
  | .ok b A1 => .ok (!b) A1
  | r => r
def tAn (f g : AS → TR) : AS → TR := fun A => match f A with
  | .ok true A1 => g A1
  | r => r
def tOrr (f g : AS → TR) : AS → TR := fun A => match f A with
  | .ok false A1 => g A1
  | r => r
theorem st_not {a : Expr} {f : AS → TR} (h : PT X a (tT T R W f)) : PT X (.UnaryOp .Not a pos) (tT T R W (tNt f)) := pt_imp (pt_not h) fun σ H Q ⟨A, G, s, p⟩ => by
  refine ⟨A, G, s, ?_⟩
  unfold tNt at p
  cases q : f A with
  | fail => rw [q] at p; exact p
  | exc c fs A1 => rw [q] at p; exact p
  | ok b A1 => rw [q] at p; exact p
theorem posT_seq {A A1 : AS} {G G1 : Hp} {σ : ST} {Q : Bool → Hp → Prop} {r : TR} (g : Same G G1) (k : KeepA A A1) (p : PostT T R W A G σ Q r) : PostT T R W A1 G1 σ Q r := by
  cases r with
  | fail => exact p
  | exc c fs A1 => exact fun cls dx H' G' g' s' x => p cls dx H' G' (g.trans g') s' x
  | ok b A1 => exact fun H' G' g' s' k' => p H' G' (g.trans g') s' (k.trans k')
theorem posE_seq {A A1 : AS} {G G1 : Hp} {σ : ST} {Q : VK} {r : ER} (g : Same G G1) (k : KeepA A A1) (p : PostE T R W A G σ Q r) : PostE T R W A1 G1 σ Q r := by
  cases r with
  | fail => exact p
  | exc c fs A1 => exact fun cls dx H' G' g' s' x => p cls dx H' G' (g.trans g') s' x
  | ok b A1 => exact fun x H' G' g' s' k' r' => p x H' G' (g.trans g') s' (k.trans k') r'
theorem sw_and1 {a : Expr} {f : AS → TR} (h : PT X a (tT T R W f)) : PW X (.BoolOp .And [a] pos) (tT T R W f) := pw_and1 h
theorem sw_or1 {a : Expr} {f : AS → TR} (h : PT X a (tT T R W f)) : PW X (.BoolOp .Or [a] pos) (tT T R W f) := pw_or1 h
theorem sw_and {a b : Expr} {rest : List Expr} {f g : AS → TR} (ha : PT X a (tT T R W f)) (hb : PW X (.BoolOp .And (b :: rest) pos) (tT T R W g)) : PW X (.BoolOp .And (a :: b :: rest) pos) (tT T R W (tAn f g)) :=
  pw_imp (pw_and ha hb) fun σ H Q ⟨A, G, s, p⟩ => by
    refine ⟨A, G, s, ?_⟩
    unfold tAn at p
    cases q : f A with
    | fail => rw [q] at p; exact p
    | exc c fs A1 => rw [q] at p; exact p
    | ok b A1 =>
      rw [q] at p
      intro H1 G1 g1 s1 k1
      cases b with
      | true => rw [if_pos rfl]; exact ⟨A1, G1, s1, posT_seq g1 k1 p⟩
      | false => rw [if_neg Bool.false_ne_true]; exact p H1 G1 g1 s1 k1
theorem sw_or {a b : Expr} {rest : List Expr} {f g : AS → TR} (ha : PT X a (tT T R W f)) (hb : PW X (.BoolOp .Or (b :: rest) pos) (tT T R W g)) : PW X (.BoolOp .Or (a :: b :: rest) pos) (tT T R W (tOrr f g)) :=
  pw_imp (pw_or ha hb) fun σ H Q ⟨A, G, s, p⟩ => by
    refine ⟨A, G, s, ?_⟩
    unfold tOrr at p
    cases q : f A with
    | fail => rw [q] at p; exact p
    | exc c fs A1 => rw [q] at p; exact p
    | ok b A1 =>
      rw [q] at p
      intro H1 G1 g1 s1 k1
      cases b with
      | false => rw [if_neg Bool.false_ne_true]; exact ⟨A1, G1, s1, posT_seq g1 k1 p⟩
      | true => rw [if_pos rfl]; exact p H1 G1 g1 s1 k1
def eIf (t : AS → TR) (f g : AS → ER) : AS → ER := fun A => match t A with
  | .ok true A1 => f A1
  | .ok false A1 => g A1
  | .exc c fs A1 => .exc c fs A1
  | .fail => .fail
theorem se_if {c a b : Expr} {t : AS → TR} {f g : AS → ER} (hc : PT X c (tT T R W t)) (ha : PE X a (tE T R W f)) (hb : PE X b (tE T R W g)) : PE X (.IfExp c a b pos) (tE T R W (eIf t f g)) := pe_imp (pe_ifExp hc ha hb) fun σ H Q ⟨A, G, s, p⟩ => by
  refine ⟨A, G, s, ?_⟩
  unfold eIf at p
  cases q : t A with
  | fail => rw [q] at p; exact p
  | exc c fs A1 => rw [q] at p; exact p
  | ok b A1 =>
    rw [q] at p
    intro H1 G1 g1 s1 k1
    cases b with
    | true => rw [if_pos rfl]; exact ⟨A1, G1, s1, posE_seq g1 k1 p⟩
    | false => rw [if_neg Bool.false_ne_true]; exact ⟨A1, G1, s1, posE_seq g1 k1 p⟩
/-- and, or, not as values: bools -/
def eAn (f g : AS → ER) : AS → ER := fun A => match tst f A with
  | .ok true A1 => g A1
  | .ok false A1 => .ok (.fz (.bl false)) A1
  | .exc c fs A1 => .exc c fs A1
  | .fail => .fail
def eOr (f g : AS → ER) : AS → ER := fun A => match tst f A with
  | .ok false A1 => g A1
  | .ok true A1 => .ok (.fz (.bl true)) A1
  | .exc c fs A1 => .exc c fs A1
  | .fail => .fail
def eNot (f : AS → ER) : AS → ER := fun A => match tst f A with
  | .ok b A1 => .ok (.fz (.bl (!b))) A1
  | .exc c fs A1 => .exc c fs A1
  | .fail => .fail
theorem se_one {op} {a : Expr} {f : AS → ER} (h : PE X a (tE T R W f)) : PE X (.BoolOp op [a] pos) (tE T R W f) := pe_one h
theorem se_and {a b : Expr} {rest : List Expr} {f g : AS → ER} (ha : PE X a (tE T R W f)) (hb : PE X (.BoolOp .And (b :: rest) pos) (tE T R W g)) : PE X (.BoolOp .And (a :: b :: rest) pos) (tE T R W (eAn f g)) :=
  pe_imp (pe_and ha hb) fun σ H Q ⟨A, G, s, p⟩ => by
    refine tst_of (T := T) (R := R) (W := W) ⟨A, G, s, ?_⟩
    unfold eAn at p
    cases q : tst f A with
    | fail => rw [q] at p; exact p
    | exc c fs A1 => rw [q] at p; exact p
    | ok b A1 =>
      rw [q] at p
      intro H1 G1 g1 s1 k1
      cases b with
      | true => rw [if_pos rfl]; exact ⟨A1, G1, s1, posE_seq g1 k1 p⟩
      | false => rw [if_neg Bool.false_ne_true]; exact p _ H1 G1 g1 s1 k1 (.bl false)
theorem se_or {a b : Expr} {rest : List Expr} {f g : AS → ER} (ha : PE X a (tE T R W f)) (hb : PE X (.BoolOp .Or (b :: rest) pos) (tE T R W g)) : PE X (.BoolOp .Or (a :: b :: rest) pos) (tE T R W (eOr f g)) :=
  pe_imp (pe_or ha hb) fun σ H Q ⟨A, G, s, p⟩ => by
    refine tst_of (T := T) (R := R) (W := W) ⟨A, G, s, ?_⟩
    unfold eOr at p
    cases q : tst f A with
    | fail => rw [q] at p; exact p
    | exc c fs A1 => rw [q] at p; exact p
    | ok b A1 =>
      rw [q] at p
      intro H1 G1 g1 s1 k1
      cases b with
      | false => rw [if_neg Bool.false_ne_true]; exact ⟨A1, G1, s1, posE_seq g1 k1 p⟩
      | true => rw [if_pos rfl]; exact p _ H1 G1 g1 s1 k1 (.bl true)
theorem se_not {a : Expr} {f : AS → ER} (h : PE X a (tE T R W f)) : PE X (.UnaryOp .Not a pos) (tE T R W (eNot f)) := pe_imp (pe_not h) fun σ H Q ⟨A, G, s, p⟩ => by
  refine tst_of (T := T) (R := R) (W := W) ⟨A, G, s, ?_⟩
  unfold eNot at p
  cases q : tst f A with
  | fail => rw [q] at p; exact p
  | exc c fs A1 => rw [q] at p; exact p
  | ok b A1 =>
    rw [q] at p
    intro H1 G1 g1 s1 k1
    exact p _ H1 G1 g1 s1 k1 (.bl _)
end
end MR

namespace MR
open PySem PySem.Spec PyProof.Rows L2

inductive SR where
  | nx (A : AS) | bk (A : AS) | ct (A : AS) | rt (d : D) (own : Bool) | exc (c : Nat) (fs : List D) (A : AS) | fail
def Keep (A : AS) (σ : ST) (A' : AS) (σ' : ST) : Prop := ∀ i d, sget A i = .lk d → sget A' i = .lk d ∧ σ'[i]? = σ[i]?
theorem Keep.of {A A' : AS} {σ : ST} (k : KeepA A A') : Keep A σ A' σ := fun i d h => ⟨k i d h, rfl⟩
theorem Keep.refl (A : AS) (σ : ST) : Keep A σ A σ := fun _ _ h => ⟨h, rfl⟩
theorem Keep.trans {A B C : AS} {σ τ υ : ST} (a : Keep A σ B τ) (b : Keep B τ C υ) : Keep A σ C υ := fun i d h =>
  let ⟨h1, e1⟩ := a i d h
  let ⟨h2, e2⟩ := b i d h1
  ⟨h2, e2.trans e1⟩
def PostS (T : Tb) (R : Rt) (W : WX) (A : AS) (G : Hp) (σ : ST) (D : Ends) (r : SR) : Prop :=
  match r with
  | .nx A' => ∀ σ' H' G', Same G G' → StOk R A' σ' H' G' → Keep A σ A' σ' → D.nx σ' H'
  | .bk A' => ∀ σ' H' G', Same G G' → StOk R A' σ' H' G' → Keep A σ A' σ' → D.bk σ' H'
  | .ct A' => ∀ σ' H' G', Same G G' → StOk R A' σ' H' G' → Keep A σ A' σ' → D.ct σ' H'
  | .rt d own => ∀ z H' G', Step R.G0 R.H0 G' H' → VF R.K G' R.H0 H' d own z → D.rt z H'
  | .exc c fs A' => ∀ cls dx σ' H' G', Same G G' → StOk R A' σ' H' G' → XR T R.K G' H' c fs cls dx → W cls dx σ' H'
  | .fail => False
def tS (T : Tb) (R : Rt) (W : WX) (f : AS → SR) : TS := fun D σ H => ∃ A G, StOk R A σ H G ∧ PostS T R W A G σ D (f A)
section
variable {X : Cx} {T : Tb} {R : Rt} {W : WX} {pos : Pos}
theorem ps_imp {st : Stmt} {t t' : TS} (h : PS X st t) (w : ∀ D σ H, t' D σ H → t D σ H) : PS X st t' := ⟨fun pins s σ H D I q => h.run pins s σ H D I (w D σ H q)⟩
theorem pss_imp {st : List Stmt} {t t' : TS} (h : PSs X st t) (w : ∀ D σ H, t' D σ H → t D σ H) : PSs X st t' := ⟨fun pins s σ H D I q => h.run pins s σ H D I (w D σ H q)⟩
theorem posS_seq {A A1 : AS} {G G1 : Hp} {σ σ1 : ST} {D : Ends} {r : SR} (g : Same G G1) (k : Keep A σ A1 σ1) (p : PostS T R W A G σ D r) : PostS T R W A1 G1 σ1 D r := by
  cases r with
  | fail => exact p
  | exc c fs A1 => exact fun cls dx σ' H' G' g' s' x => p cls dx σ' H' G' (g.trans g') s' x
  | nx A1 => exact fun σ' H' G' g' s' k' => p σ' H' G' (g.trans g') s' (k.trans k')
  | bk A1 => exact fun σ' H' G' g' s' k' => p σ' H' G' (g.trans g') s' (k.trans k')
  | ct A1 => exact fun σ' H' G' g' s' k' => p σ' H' G' (g.trans g') s' (k.trans k')
  | rt d own => exact p
def sNil : AS → SR := fun A => .nx A
def sSeq (f g : AS → SR) : AS → SR := fun A => match f A with
  | .nx A1 => g A1
  | r => r
theorem ss_nil : PSs X [] (tS T R W sNil) := pss_imp pss_nil fun D σ H ⟨A, G, s, p⟩ => p σ H G (Same.refl _) s (Keep.refl _ _)
theorem ss_one {st : Stmt} {f : AS → SR} (h : PS X st (tS T R W f)) : PSs X [st] (tS T R W f) := pss_one h
theorem ss_cons {st : Stmt} {rest : List Stmt} {f g : AS → SR} (h1 : PS X st (tS T R W f)) (h2 : PSs X rest (tS T R W g)) : PSs X (st :: rest) (tS T R W (sSeq f g)) := pss_imp (pss_cons h1 h2) fun D σ H ⟨A, G, s, p⟩ => by
  refine ⟨A, G, s, ?_⟩
  unfold sSeq at p
  cases q : f A with
  | nx A1 =>
    rw [q] at p
    intro σ' H' G' g' s' k'
    exact ⟨A1, G', s', posS_seq g' k' p⟩
  | _ => rw [q] at p; exact p
theorem s_pass : PS X (.Pass pos) (tS T R W sNil) := ps_imp ps_pass fun D σ H ⟨A, G, s, p⟩ => p σ H G (Same.refl _) s (Keep.refl _ _)
theorem s_break : PS X (.Break pos) (tS T R W fun A => .bk A) := ps_imp ps_break fun D σ H ⟨A, G, s, p⟩ => p σ H G (Same.refl _) s (Keep.refl _ _)
theorem s_cont : PS X (.Continue pos) (tS T R W fun A => .ct A) := ps_imp ps_continue fun D σ H ⟨A, G, s, p⟩ => p σ H G (Same.refl _) s (Keep.refl _ _)
def sIf (t : AS → TR) (f g : AS → SR) : AS → SR := fun A => match t A with
  | .ok true A1 => f A1
  | .ok false A1 => g A1
  | .exc c fs A1 => .exc c fs A1
  | .fail => .fail
theorem s_if {c : Expr} {a b : List Stmt} {t : AS → TR} {f g : AS → SR} (hc : PT X c (tT T R W t)) (ha : PSs X a (tS T R W f)) (hb : PSs X b (tS T R W g)) : PS X (.If c a b pos) (tS T R W (sIf t f g)) := ps_imp (ps_if hc ha hb) fun D σ H ⟨A, G, s, p⟩ => by
  refine ⟨A, G, s, ?_⟩
  unfold sIf at p
  cases q : t A with
  | fail => rw [q] at p; exact p
  | exc c fs A1 => rw [q] at p; exact fun cls dx H' G' => p cls dx σ H' G'
  | ok b A1 =>
    rw [q] at p
    intro H1 G1 g1 s1 k1
    cases b with
    | true => rw [if_pos rfl]; exact ⟨A1, G1, s1, posS_seq g1 (.of k1) p⟩
    | false => rw [if_neg Bool.false_ne_true]; exact ⟨A1, G1, s1, posS_seq g1 (.of k1) p⟩

/-! ### return, an expression alone -/
def vRet (v : Vm) (A : AS) : SR := match v with
  | .fz d => .rt d false
  | .tmp d => .rt d true
  | .sl i => match sget A i with
    | .fz d => .rt d false
    | .ow d => .rt d true
    | .lk d => .rt d true
    | .un => .fail
    | .xn _ _ => .fail
def sRet (f : AS → ER) : AS → SR := fun A => match f A with
  | .ok v A1 => vRet v A1
  | .exc c fs A1 => .exc c fs A1
  | .fail => .fail
theorem vRet_ok {A A0 : AS} {σ : ST} {H G G0 : Hp} {D : Ends} {v : Vm} {x : V} (s : StOk R A σ H G) (r : VR R A σ H G v x) (p : PostS T R W A0 G0 σ D (vRet v A)) : D.rt x H := by
  cases v with
  | fz d => exact p x H G s.step r
  | tmp d => obtain ⟨a, e, g, h0, w, _⟩ := r; exact p x H G s.step ⟨a, e, h0, g, w⟩
  | sl i =>
    have at_ := s.at_ i
    have e : σ[i]? = some (some x) := r
    dsimp only [vRet] at p
    cases q : sget A i with
    | un => rw [q] at p; exact p.elim
    | xn _ _ => rw [q] at p; exact p.elim
    | fz d =>
      rw [q] at p at_
      obtain ⟨v, e1, rp⟩ := at_
      rw [e] at e1; cases e1
      exact p x H G s.step rp
    | ow d =>
      rw [q] at p at_
      obtain ⟨a, e1, g, h0, w⟩ := at_
      rw [e] at e1; cases e1
      exact p _ H G s.step ⟨a, rfl, h0, g, w⟩
    | lk d =>
      rw [q] at p at_
      obtain ⟨a, e1, g, h0, w⟩ := at_
      rw [e] at e1; cases e1
      exact p _ H G s.step ⟨a, rfl, h0, g, w⟩
theorem s_ret {e : Expr} {f : AS → ER} (h : PE X e (tE T R W f)) : PS X (.Return (some e) pos) (tS T R W (sRet f)) := ps_imp (ps_ret h) fun D σ H ⟨A, G, s, p⟩ => by
  refine ⟨A, G, s, ?_⟩
  unfold sRet at p
  cases q : f A with
  | fail => rw [q] at p; exact p
  | exc c fs A1 => rw [q] at p; exact fun cls dx H' G' => p cls dx σ H' G'
  | ok v A1 =>
    rw [q] at p
    intro x H1 G1 g1 s1 k1 r1
    exact vRet_ok s1 r1 p
theorem s_retN : PS X (.Return none pos) (tS T R W fun _ => .rt .non false) := ps_imp ps_retN fun D σ H ⟨A, G, s, p⟩ => p .non H G s.step .non
def sExpr (f : AS → ER) : AS → SR := fun A => match f A with
  | .ok _ A1 => .nx A1
  | .exc c fs A1 => .exc c fs A1
  | .fail => .fail
theorem s_expr {e : Expr} {f : AS → ER} (h : PE X e (tE T R W f)) (hs : swapsWith e none pos.line X.env = pure false := by rfl) : PS X (.Expr e pos) (tS T R W (sExpr f)) := ps_imp (ps_expr h hs) fun D σ H ⟨A, G, s, p⟩ => by
  refine ⟨A, G, s, ?_⟩
  unfold sExpr at p
  cases q : f A with
  | fail => rw [q] at p; exact p
  | exc c fs A1 => rw [q] at p; exact fun cls dx H' G' => p cls dx σ H' G'
  | ok v A1 =>
    rw [q] at p
    intro x H1 G1 g1 s1 k1 r1
    exact p σ H1 G1 g1 s1 (.of k1)

/-! ### a name is stored -/
/-- the slot's new word and what is left of the state -/
def putV0 (i : Nat) (v : Vm) (A : AS) : Option AS := match v with
  | .fz d => some (sset A i (.fz d))
  | .tmp d => some (sset A i (.ow d))
  | .sl j => match settle (.sl j) A with
    | some (d, A1) => some (sset A1 i (.fz d))
    | none => none
def putV (i : Nat) (v : Vm) (A : AS) : Option AS := match sget A i with
  | .lk _ => none
  | _ => putV0 i v A
theorem StOk.put {A : AS} {σ : ST} {H G : Hp} {i : Nat} {w : Sl} {x : V} (s : StOk R A σ H G) (hw : SlOk R G H w (some (some x))) (ho : ∀ a, w.isOwn = true → x = .ref a → ∀ j, j ≠ i → (sget A j).isOwn = true → σ[j]? ≠ some (some (.ref a))) :
    StOk R (sset A i w) (σ.set i (some x)) H G := by
  have key : ∀ j, j ≠ i → sget (sset A i w) j = sget A j ∧ (σ.set i (some x))[j]? = σ[j]? := fun j hj => ⟨sget_ne _ _ _ _ (Ne.symm hj), List.getElem?_set_ne (Ne.symm hj)⟩
  have own_i : ∀ b, (sget (sset A i w) i).isOwn = true → (σ.set i (some x))[i]? = some (some (.ref b)) → w.isOwn = true ∧ x = .ref b := fun b o e => by
    rcases sget_eq A i w with z | ⟨z, l⟩
    · rw [z] at o
      refine ⟨o, ?_⟩
      by_cases c : i < σ.length
      · rw [List.getElem?_set_self c] at e; cases e; rfl
      · rw [List.getElem?_eq_none (by simpa using c)] at e; cases e
    · rw [z] at o; exact nomatch o
  refine ⟨s.step, by rw [sset_len, List.length_set]; exact s.len, fun j => ?_, fun j k b oj ok ej ek => ?_⟩
  · by_cases c : j = i
    · subst c
      rcases sget_eq A j w with z | ⟨z, l⟩
      · rw [z]
        by_cases c2 : j < σ.length
        · rw [List.getElem?_set_self c2]; exact hw
        · have z2 : sget (sset A j w) j = .un := sget_big _ _ (by rw [sset_len, s.len]; omega)
          rw [z] at z2; rw [z2]; trivial
      · rw [z]; trivial
    · rw [(key j c).1, (key j c).2]; exact s.at_ j
  · by_cases cj : j = i
    · by_cases ck : k = i
      · rw [cj, ck]
      · subst cj
        obtain ⟨o, e⟩ := own_i b oj ej
        rw [(key k ck).1] at ok
        rw [(key k ck).2] at ek
        exact absurd ek (ho b o e k ck ok)
    · by_cases ck : k = i
      · subst ck
        obtain ⟨o, e⟩ := own_i b ok ek
        rw [(key j cj).1] at oj
        rw [(key j cj).2] at ej
        exact absurd ej (ho b o e j cj oj)
      · rw [(key j cj).1] at oj
        rw [(key j cj).2] at ej
        rw [(key k ck).1] at ok
        rw [(key k ck).2] at ek
        exact s.inj j k b oj ok ej ek
theorem keep_put {A : AS} {σ : ST} {i : Nat} {w : Sl} {x : Option V} (h : ∀ d, sget A i ≠ .lk d) : Keep A σ (sset A i w) (σ.set i x) := fun j d e => by
  have c : i ≠ j := fun c => by subst c; exact h d e
  exact ⟨by rw [sget_ne _ _ _ _ c]; exact e, List.getElem?_set_ne c⟩
theorem putV_ok {A A' : AS} {σ : ST} {H G : Hp} {i : Nat} {v : Vm} {x : V} (s : StOk R A σ H G) (r : VR R A σ H G v x) (h : putV i v A = some A') : ∃ G', Same G G' ∧ StOk R A' (σ.set i (some x)) H G' ∧ Keep A σ A' (σ.set i (some x)) := by
  have nl : ∀ d, sget A i ≠ .lk d := fun d e => by unfold putV at h; rw [e] at h; exact nomatch h
  have h2 : putV0 i v A = some A' := by
    unfold putV at h
    cases q : sget A i with
    | lk d => exact absurd q (nl d)
    | un => rw [q] at h; exact h
    | xn _ _ => rw [q] at h; exact h
    | fz d => rw [q] at h; exact h
    | ow d => rw [q] at h; exact h
  clear h
  cases v with
  | fz d => cases h2; exact ⟨G, Same.refl _, s.put ⟨x, rfl, r⟩ (fun a o => nomatch o), keep_put nl⟩
  | tmp d =>
    cases h2
    obtain ⟨a, e, g, h0, w, n⟩ := r
    subst e
    exact ⟨G, Same.refl _, s.put ⟨a, rfl, g, h0, w⟩ (fun b _ e j _ oj => by cases e; exact n j oj), keep_put nl⟩
  | sl j =>
    dsimp only [putV0] at h2
    cases q : settle (.sl j) A with
    | none => rw [q] at h2; exact nomatch h2
    | some p =>
      obtain ⟨d, A1⟩ := p
      rw [q] at h2
      cases h2
      obtain ⟨G1, g1, s1, r1, k1⟩ := settle_ok s r q
      refine ⟨G1, g1, s1.put ⟨x, rfl, r1⟩ (fun a o => nomatch o), (Keep.of k1).trans (keep_put fun d' e => ?_)⟩
      -- settling makes no lock
      have : sget A i = .lk d' := by
        dsimp only [settle] at q
        cases qj : sget A j with
        | un => rw [qj] at q; exact nomatch q
        | xn _ _ => rw [qj] at q; exact nomatch q
        | lk _ => rw [qj] at q; exact nomatch q
        | fz _ => rw [qj] at q; cases q; exact e
        | ow _ =>
          rw [qj] at q; cases q
          by_cases c : j = i
          · subst c
            rcases sget_eq A j (.fz d) with z | ⟨z, _⟩ <;> rw [z] at e <;> cases e
          · rw [sget_ne _ _ _ _ c] at e; exact e
      exact nl d' this
def sAsg (i : Nat) (f : AS → ER) : AS → SR := fun A => match f A with
  | .ok v A1 => match putV i v A1 with
    | some A2 => .nx A2
    | none => .fail
  | .exc c fs A1 => .exc c fs A1
  | .fail => .fail
theorem asg_imp {i : Nat} {f : AS → ER} {D : Ends} {σ : ST} {H : Hp} (h : tS T R W (sAsg i f) D σ H) : tAsg (tE T R W f) (gName i) D σ H := by
  obtain ⟨A, G, s, p⟩ := h
  refine ⟨A, G, s, ?_⟩
  unfold sAsg at p
  cases q : f A with
  | fail => rw [q] at p; exact p
  | exc c fs A1 => rw [q] at p; exact fun cls dx H' G' => p cls dx σ H' G'
  | ok v A1 =>
    rw [q] at p
    intro x H1 G1 g1 s1 k1 r1
    dsimp only at p
    cases q2 : putV i v A1 with
    | none => rw [q2] at p; exact p.elim
    | some A2 =>
      rw [q2] at p
      obtain ⟨G2, g2, s2, k2⟩ := putV_ok s1 r1 q2
      exact p _ H1 G2 (g1.trans g2) s2 ((Keep.of k1).trans k2)
theorem s_set {i : Nat} {x : Str} {e : Expr} {f : AS → ER} {pos' : Pos} (hN : X.N.Nodup) (hi : X.N[i]? = some x) (hx : Loc X.env.scope x) (he : PE X e (tE T R W f)) (hs : swapsWith e (some (.Name x pos')) pos.line X.env = pure false := by rfl)
    (hf : X.fn x = true ∨ X.env.scope.names.lookup x = some .local := by first | exact .inl rfl | exact .inr rfl | assumption) : PS X (.Assign [.Name x pos'] e pos) (tS T R W (sAsg i f)) := ps_imp (ps_set hN hi hx he hs hf) fun _ _ _ q => asg_imp q
/-- x op= e, ints (the operator in place gives what the operator gives) -/
def sAug (i : Nat) (op : D → D → FR) (f : AS → ER) : AS → SR := fun A => match sget A i with
  | .fz d => match f A with
    | .ok w A1 => match cont w A1 with
      | some e => match op d e with
        | .ok d' false => match putV i (.fz d') A1 with
          | some A2 => .nx A2
          | none => .fail
        | _ => .fail
      | none => .fail
    | .exc c fs A1 => .exc c fs A1
    | .fail => .fail
  | _ => .fail
theorem s_aug {i : Nat} {x : Str} {e : Expr} {o : Operator} {op : D → D → FR} {f : AS → ER} {pos' : Pos} (hN : X.N.Nodup) (hi : X.N[i]? = some x) (hx : Loc X.env.scope x) (he : PE X e (tE T R W f)) (ho : OpR X (inplaceOp o) (rO R.K op))
    (hf : X.fn x = true ∨ X.env.scope.names.lookup x = some .local := by first | exact .inl rfl | exact .inr rfl | assumption) : PS X (.AugAssign (.Name x pos') o e pos) (tS T R W (sAug i op f)) := ps_imp (ps_aug (ti := rO R.K op) hN hi hx he ho hf) fun D σ H ⟨A, G, s, p⟩ => by
  have at_ := s.at_ i
  unfold sAug at p
  cases q0 : sget A i with
  | un => rw [q0] at p; exact p.elim
  | xn _ _ => rw [q0] at p; exact p.elim
  | ow d => rw [q0] at p; exact p.elim
  | lk d => rw [q0] at p; exact p.elim
  | fz d =>
    rw [q0] at p at_
    obtain ⟨v, e1, rv⟩ := at_
    refine ⟨v, e1, A, G, s, ?_⟩
    dsimp only at p
    cases q : f A with
    | fail => rw [q] at p; exact p
    | exc c fs A1 => rw [q] at p; exact fun cls dx H' G' => p cls dx σ H' G'
    | ok w A1 =>
      rw [q] at p
      intro y H1 G1 g1 s1 k1 r1
      dsimp only at p
      cases q2 : cont w A1 with
      | none => rw [q2] at p; exact p.elim
      | some d2 =>
        rw [q2] at p
        dsimp only at p
        refine ⟨G1, d, d2, s1.step.le, .inl (rv.mono g1), cont_ok s1 r1 q2, ?_⟩
        cases q3 : op d d2 with
        | fail => rw [q3] at p; exact p.elim
        | exc c fs => rw [q3] at p; exact p.elim
        | ok d' own =>
          rw [q3] at p
          cases own with
          | true => exact p.elim
          | false =>
            intro z H2 G2 st vf
            dsimp only at p
            cases q4 : putV i (.fz d') A1 with
            | none => rw [q4] at p; exact p.elim
            | some A2 =>
              rw [q4] at p
              obtain ⟨G3, g3, s3, k3⟩ := putV_ok (v := .fz d') (s1.next st) vf q4
              exact p _ H2 G3 ((g1.trans st.sG).trans g3) s3 ((Keep.of k1).trans k3)
end
end MR

namespace MR
open PySem PySem.Spec PyProof.Rows L2

/-! ### a list or a tuple that is walked: b says which -/
def SqX (b : Bool) (K : PySem.W.Frag) (H : Hp) (a : Addr) (xs : List V) : Prop := match b with
  | true => SqL K H a xs
  | false => SqT K H a xs
def HasX (b : Bool) (h : Heap) (a : Addr) (items : Array Value) : Prop := match b with
  | true => h.IsList a items
  | false => h.IsTuple a items
def IterX (b : Bool) (h : Heap) (it a : Addr) (i : Nat) : Prop := match b with
  | true => h.IsListIter it a i
  | false => h.IsTupleIter it a i
def itO (b : Bool) (a : Addr) : Obj := match b with
  | true => { cls := .type "list_iterator", data := .fields #[.ref a, .int 0 0] }
  | false => { cls := .type "tuple_iterator", data := .fields #[.ref a, .int 0 0] }
theorem begX (b : Bool) (a : Addr) (items : Array Value) : Begins (.ref a) (itO b a) fun h => HasX b h a items := by
  cases b with
  | true => exact begins_list a items
  | false => exact begins_tuple a items
theorem drawX {prog : Program} {w : World} {A : Around} (hh : A.handled = none) (b : Bool) (it a : Addr) (hne : a ≠ it) (items : Array Value) :
    Draws prog w A it [it, a] items.size (fun i v => items[i]? = some v) (fun i h => IterX b h it a i ∧ HasX b h a items) := by
  cases b with
  | true => exact Draws.list hh it a hne items
  | false => exact Draws.tuple hh it a hne items
theorem iterX_new {b : Bool} {h : Heap} {it a : Addr} (e : h.get? it = some (itO b a)) : IterX b h it a 0 := by
  cases b with
  | true => exact ⟨_, e, rfl, rfl⟩
  | false => exact ⟨_, e, rfl, rfl⟩
theorem iterX_obj {b : Bool} {h : Heap} {it a : Addr} {i : Nat} (x : IterX b h it a i) : ∃ o, h.get? it = some o ∧ ∀ v, o.data ≠ .cell v := by
  cases b with
  | true => obtain ⟨o, e, _, d⟩ := x; exact ⟨o, e, fun v z => by rw [d] at z; cases z⟩
  | false => obtain ⟨o, e, _, d⟩ := x; exact ⟨o, e, fun v z => by rw [d] at z; cases z⟩
theorem iterX_at {b : Bool} {h h' : Heap} {it a : Addr} {i : Nat} (x : IterX b h it a i) (k : ∀ o, h.get? it = some o → h'.get? it = some o) : IterX b h' it a i := by
  cases b with
  | true => exact Heap.IsListIter.at x k
  | false => obtain ⟨o, e, r⟩ := x; exact ⟨o, k o e, r⟩
theorem hasX_lt {b : Bool} {h : Heap} {a : Addr} {items : Array Value} (x : HasX b h a items) : a < h.objs.size := by
  cases b with
  | true => obtain ⟨o, e, _⟩ := x; exact Heap.lt_size e
  | false => obtain ⟨o, e, _⟩ := x; exact Heap.lt_size e
theorem _root_.L2.Inv.seqX {X : Cx} {pins : List (Addr × Obj)} {σ : ST} {H : Hp} {s : Shared} {b : Bool} {a : Addr} {xs : List V} (I : Inv X pins σ H s) (h : SqX b X.K H a xs) : ∃ its : List Value, Vals xs its ∧ HasX b s.heap a its.toArray ∧ xs.length ≤ sizeLine := by
  cases b with
  | true => obtain ⟨its, r, p, z⟩ := I.list h; exact ⟨its, r, p.isList, z⟩
  | false => obtain ⟨its, r, p, z⟩ := I.tuple h; exact ⟨its, r, p, z⟩
theorem _root_.L2.Inv.seqX_inj {X : Cx} {pins : List (Addr × Obj)} {σ : ST} {H : Hp} {s : Shared} {b : Bool} {a : Addr} {xs ys : List V} (I : Inv X pins σ H s) (h : SqX b X.K H a xs) (h' : SqX b X.K H a ys) : xs = ys := by
  cases b with
  | true => exact I.list_inj h h'
  | false => exact I.tuple_inj h h'

/-! ### one sequence alone -/
def ItX (b : Bool) (K : PySem.W.Frag) (a : Addr) : It := match b with
  | true => Itl K a
  | false => Itt K a
theorem walkX {b : Bool} {K : PySem.W.Frag} {a : Addr} {xs : List V} : Walk (ItX b K a) xs.length (fun H => SqX b K H a xs) (YAt xs) := by
  cases b with
  | true => exact walk_list
  | false => exact walk_tup
section
variable {X : Cx} {tg : Expr}
theorem pieX {pins : List (Addr × Obj)} {σ : ST} {H : Hp} {s : Shared} {b : Bool} {a : Addr} {xs : List V} {R : It → Hp → Prop} {E : Value → Shared → Prop} (I : Inv X pins σ H s) (h : SqX b X.K H a xs) (q : R (ItX b X.K a) H) :
    wpAny (model X.prog X.w) X.A (pyIter (.ref a)) (PIE X pins σ tg R) E s := by
  cases b with
  | true =>
    obtain ⟨its, rv, p, hz⟩ := I.list h
    refine wpAny_pyIter_list p.isList ?_
    exact pi_one (tk := s.toks) I _ (turn_list a _) ⟨_, Heap.get?_push_size _ rfl, rfl, rfl⟩ q
  | false =>
    obtain ⟨its, rv, p, hz⟩ := I.tuple h
    refine wpAny_pyIter_tuple (show s.heap.IsTuple a its.toArray from p) ?_
    exact pi_one (tk := s.toks) I _ (turn_tuple a _) ⟨_, Heap.get?_push_size _ rfl, rfl, rfl⟩ q
end

/-! ### pairs: zip, enumerate -/
def ItP (G1 G2 : Nat → Hp → V → Prop) (U1 U2 : Nat → Hp → V → Prop) (S : Nat → Hp → Prop) : It :=
  ⟨fun i H => (∃ x, G1 i H x) ∧ ∃ y, G2 i H y, fun i H v H' => ∃ T x y, v = .ref T ∧ H T = none ∧ H' = upd H T (.tup [x, y]) ∧ U1 i H x ∧ U2 i H y, S⟩
def gX (b : Bool) (K : PySem.W.Frag) (a : Addr) : Nat → Hp → V → Prop := fun i H x => ∃ xs, SqX b K H a xs ∧ xs[i]? = some x
def uX (b : Bool) (K : PySem.W.Frag) (a : Addr) : Nat → Hp → V → Prop := fun i H x => ∀ xs, SqX b K H a xs → xs[i]? = some x
def ItZ (K : PySem.W.Frag) (b c : Bool) (a d : Addr) : It :=
  ItP (gX b K a) (gX c K d) (uX b K a) (uX c K d) fun i H => ∃ xs ys, SqX b K H a xs ∧ SqX c K H d ys ∧ (i = min xs.length ys.length)
def ItE (K : PySem.W.Frag) (b : Bool) (a : Addr) (k : Int) : It :=
  ItP (fun i _ x => x = .int (k + i)) (gX b K a) (fun i _ x => x = .int (k + i)) (uX b K a) fun i H => ∃ xs, SqX b K H a xs ∧ i = xs.length
theorem turn_Z {P : Program} {w : World} {K : PySem.W.Frag} {elts : List Expr} {kk : Nat} {tpos : Pos} {b c : Bool} {a d N : Addr} (la : a < N) (ld : d < N) :
    Turn P w K (.Tuple elts kk tpos) (ItZ K b c a d) [N + 4, N + 2, N + 3, N, N + 1] (N + 4) (fun i h => IsZip h (N + 4) (N + 2) (N + 3) .none ∧ IsTupOf2 h (N + 2) (.ref N) (.ref (N + 1)) ∧ (∃ a1 a2, IsTupOf2 h (N + 3) a1 a2) ∧ IterX b h N a i ∧ IterX c h (N + 1) d i) where
  mem := by simp
  obj := fun i h st e he => by
    obtain ⟨hz, hT, ⟨_, _, hO⟩, h1, h2⟩ := st
    simp only [List.mem_cons, List.not_mem_nil, or_false] at he
    rcases he with q | q | q | q | q <;> subst q
    · exact ⟨_, hz, fun v q => nomatch q⟩
    · exact ⟨_, hT, fun v q => nomatch q⟩
    · exact ⟨_, hO, fun v q => nomatch q⟩
    · exact iterX_obj h1
    · exact iterX_obj h2
  keep := fun i h h' st k => by
    obtain ⟨hz, hT, ⟨a1, a2, hO⟩, h1, h2⟩ := st
    exact ⟨k _ (by simp) _ hz, k _ (by simp) _ hT, ⟨a1, a2, k _ (by simp) _ hO⟩, iterX_at h1 fun o q => k _ (by simp) o q, iterX_at h2 fun o q => k _ (by simp) o q⟩
  item := by
    intro X hP hw hK hc i pins s σ H E I hf st hg
    subst hP hw hK
    obtain ⟨hz, hT, hO, h1, h2⟩ := st
    obtain ⟨⟨x, xs, hqx, hx⟩, ⟨y, ys, hqy, hy⟩⟩ := hg
    obtain ⟨its, rv, p, _⟩ := I.seqX hqx
    obtain ⟨its2, rv2, p2, _⟩ := I.seqX hqy
    have hh : X.A.in1.handled = none := I.ok.hd hc
    have ne1 : a ≠ N := Nat.ne_of_lt la
    have ne2 : d ≠ N + 1 := Nat.ne_of_lt (Nat.lt_succ_of_lt ld)
    have G := GoesN.zip2 (elts := elts) (x1 := kk) (pos := tpos) (zip_sep2 (N := N) (fp1 := [a]) (fp2 := [d]) (fun e he => by simp at he; subst he; exact la) (fun e he => by simp at he; subst he; exact ld)) (drawX (prog := X.prog) (w := X.w) hh b N a ne1 its.toArray) (drawX (prog := X.prog) (w := X.w) hh c (N + 1) d ne2 its2.toArray)
    have l1 : i < its.length := by rw [← rv.length]; exact (List.getElem?_eq_some_iff.mp hx).1
    have l2 : i < its2.length := by rw [← rv2.length]; exact (List.getElem?_eq_some_iff.mp hy).1
    refine thn (G.goes i s _ E (by simp; omega) ⟨hz, hT, hO, ⟨h1, p⟩, h2, p2⟩ ?_) fun r s1 q => q
    intro v h' tk ⟨T, x', y', ev, hnew, hx', hy', hTT⟩ st' hk htk
    subst ev
    obtain ⟨hz', hT', hO', ⟨h1', _⟩, h2', _⟩ := st'
    obtain ⟨u, hu, ru⟩ := rv.get hx
    obtain ⟨u2, hu2, ru2⟩ := rv2.get hy
    have ex : x' = u := by rw [List.getElem?_toArray, hu] at hx'; exact (Option.some.inj hx').symm
    have ey : y' = u2 := by rw [List.getElem?_toArray, hu2] at hy'; exact (Option.some.inj hy').symm
    subst ex ey
    have new : ObjOk X.prog X.w (upd H T (.tup [x, y])) h' T (.tup [x, y]) := ⟨by show 2 ≤ sizeLine; decide, [x', y'], .cons ru (.cons ru2 .nil), hTT⟩
    have I1 : Inv X pins σ (upd H T (.tup [x, y])) { s with heap := h', toks := tk } := I.turnedNew (ch := [N + 4, N + 2, N + 3, N, N + 1]) (fun e o hb q => hk e o (fun z => hb (by simp only [List.mem_cons, List.not_mem_nil, or_false] at z ⊢; rcases z with z | z | z | z <;> simp [z])) q) hf hnew new
    refine ⟨.ref T, _, I1, rfl, ⟨T, x, y, rfl, I.hok.fresh hnew, rfl, fun l hl => by rw [I.seqX_inj hl hqx]; exact hx, fun l hl => by rw [I.seqX_inj hl hqy]; exact hy⟩, ⟨hz', hT', hO', h1', h2'⟩, fun e he => ?_⟩
    have hn := (hf e he).1
    have ltT : e < s.heap.objs.size := by
      simp only [List.mem_cons, List.not_mem_nil, or_false] at he
      obtain ⟨_, _, hO⟩ := hO
      rcases he with q | q | q | q | q <;> subst q
      · exact Heap.lt_size hz
      · exact Heap.lt_size hT
      · exact Heap.lt_size hO
      · obtain ⟨_, q, _⟩ := iterX_obj h1; exact Heap.lt_size q
      · obtain ⟨_, q, _⟩ := iterX_obj h2; exact Heap.lt_size q
    rw [upd_ne (Nat.ne_of_lt (Nat.lt_of_lt_of_le ltT hnew))]; exact hn
  done := by
    intro X hP hw hK hc i pins s σ H E I hf st hg
    subst hP hw hK
    obtain ⟨hz, hT, hO, h1, h2⟩ := st
    obtain ⟨xs, ys, hqx, hqy, hi⟩ := hg
    obtain ⟨its, rv, p, _⟩ := I.seqX hqx
    obtain ⟨its2, rv2, p2, _⟩ := I.seqX hqy
    have hh : X.A.in1.handled = none := I.ok.hd hc
    have ne1 : a ≠ N := Nat.ne_of_lt la
    have ne2 : d ≠ N + 1 := Nat.ne_of_lt (Nat.lt_succ_of_lt ld)
    have G := GoesN.zip2 (elts := elts) (x1 := kk) (pos := tpos) (zip_sep2 (N := N) (fp1 := [a]) (fp2 := [d]) (fun e he => by simp at he; subst he; exact la) (fun e he => by simp at he; subst he; exact ld)) (drawX (prog := X.prog) (w := X.w) hh b N a ne1 its.toArray) (drawX (prog := X.prog) (w := X.w) hh c (N + 1) d ne2 its2.toArray)
    have ei : i = min its.toArray.size its2.toArray.size := by rw [hi, rv.length, rv2.length]; simp
    rw [ei] at h1 h2
    exact thn (G.stops s (fun s1 => Inv X pins σ H s1) E ⟨hz, hT, hO, ⟨h1, p⟩, h2, p2⟩ fun h' tk hk htk => I.turnedL (ch := [N + 4, N + 2, N + 3, N, N + 1]) (fun e o hb q => hk e o (fun z => hb (by simp only [List.mem_cons, List.not_mem_nil, or_false] at z ⊢; rcases z with z | z | z | z <;> simp [z])) q) hf) fun r s1 q => q
  self := fun A i s Q E st h => wpAny_pyIter_zip st.1 h
theorem turn_E {P : Program} {w : World} {K : PySem.W.Frag} {elts : List Expr} {kk : Nat} {tpos : Pos} {b : Bool} {a N : Addr} {k : Int} (la : a < N) :
    Turn P w K (.Tuple elts kk tpos) (ItE K b a k) [N + 1, N] (N + 1) (fun i h => (∃ old, IsEnum h (N + 1) N (k + (i : Int)) old) ∧ IterX b h N a i) where
  mem := by simp
  obj := fun i h st e he => by
    obtain ⟨⟨_, hz⟩, h1⟩ := st
    simp only [List.mem_cons, List.not_mem_nil, or_false] at he
    rcases he with q | q <;> subst q
    · exact ⟨_, hz, fun v q => nomatch q⟩
    · exact iterX_obj h1
  keep := fun i h h' st k => by
    obtain ⟨⟨o, hz⟩, h1⟩ := st
    exact ⟨⟨o, k _ (by simp) _ hz⟩, iterX_at h1 fun o q => k _ (by simp) o q⟩
  item := by
    intro X hP hw hK hc i pins s σ H E I hf st hg
    subst hP hw hK
    obtain ⟨hz, h1⟩ := st
    obtain ⟨⟨x0, hx0⟩, ⟨y, ys, hqy, hy⟩⟩ := hg
    obtain ⟨its, rv, p, _⟩ := I.seqX hqy
    have hh : X.A.in1.handled = none := I.ok.hd hc
    have ne1 : a ≠ N := Nat.ne_of_lt la
    have G := GoesN.enumFrom (elts := elts) (x1 := kk) (pos := tpos) k (drawX (prog := X.prog) (w := X.w) hh b N a ne1 its.toArray) (N + 1) (Nat.succ_ne_self N) (fun z => Nat.ne_of_gt (Nat.lt_succ_of_lt la) ((List.mem_cons.mp z).elim (fun q => absurd q (Nat.succ_ne_self N)) fun q => by simpa using q)) (by simp)
    have l1 : i < its.length := by rw [← rv.length]; exact (List.getElem?_eq_some_iff.mp hy).1
    refine thn (G.goes i s _ E (by simpa using l1) ⟨hz, h1, p⟩ ?_) fun r s1 q => q
    intro v h' tk ⟨T, t, y', ev, hnew, hy', hTT⟩ st' hk htk
    subst ev
    obtain ⟨hz', h1', _⟩ := st'
    obtain ⟨u, hu, ru⟩ := rv.get hy
    have ey : y' = u := by rw [List.getElem?_toArray, hu] at hy'; exact (Option.some.inj hy').symm
    subst ey
    have new : ObjOk X.prog X.w (upd H T (.tup [.int (k + (i : Int)), y])) h' T (.tup [.int (k + (i : Int)), y]) := ⟨by show 2 ≤ sizeLine; decide, [.int (k + (i : Int)) t, y'], .cons ⟨t, rfl⟩ (.cons ru .nil), hTT⟩
    have I1 : Inv X pins σ (upd H T (.tup [.int (k + (i : Int)), y])) { s with heap := h', toks := tk } := I.turnedNew (ch := [N + 1, N]) (fun e o hb q => hk e o hb q) hf hnew new
    refine ⟨.ref T, _, I1, rfl, ⟨T, _, y, rfl, I.hok.fresh hnew, rfl, rfl, fun l hl => by rw [I.seqX_inj hl hqy]; exact hy⟩, ⟨hz', h1'⟩, fun e he => ?_⟩
    have hn := (hf e he).1
    have ltT : e < s.heap.objs.size := by
      simp only [List.mem_cons, List.not_mem_nil, or_false] at he
      obtain ⟨_, hz⟩ := hz
      rcases he with q | q <;> subst q
      · exact Heap.lt_size hz
      · obtain ⟨_, q, _⟩ := iterX_obj h1; exact Heap.lt_size q
    rw [upd_ne (Nat.ne_of_lt (Nat.lt_of_lt_of_le ltT hnew))]; exact hn
  done := by
    intro X hP hw hK hc i pins s σ H E I hf st hg
    subst hP hw hK
    obtain ⟨hz, h1⟩ := st
    obtain ⟨ys, hqy, hi⟩ := hg
    obtain ⟨its, rv, p, _⟩ := I.seqX hqy
    have hh : X.A.in1.handled = none := I.ok.hd hc
    have ne1 : a ≠ N := Nat.ne_of_lt la
    have G := GoesN.enumFrom (elts := elts) (x1 := kk) (pos := tpos) k (drawX (prog := X.prog) (w := X.w) hh b N a ne1 its.toArray) (N + 1) (Nat.succ_ne_self N) (fun z => Nat.ne_of_gt (Nat.lt_succ_of_lt la) ((List.mem_cons.mp z).elim (fun q => absurd q (Nat.succ_ne_self N)) fun q => by simpa using q)) (by simp)
    have ei : i = its.toArray.size := by rw [hi, rv.length]; simp
    rw [ei] at h1 hz
    exact thn (G.stops s (fun s1 => Inv X pins σ H s1) E ⟨hz, h1, p⟩ fun h' tk hk htk => I.turnedL (ch := [N + 1, N]) (fun e o hb q => hk e o hb q) hf) fun r s1 q => q
  self := fun A i s Q E st h => let ⟨⟨_, e⟩, _⟩ := st; wpAny_pyIter_enum e h
end MR

namespace MR
open PySem PySem.Spec PyProof.Rows L2

/-! ### targets -/
abbrev GD := D → AS → Option AS
abbrev GsD := List D → AS → Option AS
def Off (wr : List Nat) (σ σ' : ST) : Prop := σ'.length = σ.length ∧ ∀ j, j ∉ wr → σ'[j]? = σ[j]?
def tG (R : Rt) (wr : List Nat) (gf : GD) : TG := fun v σ H Q => ∃ A G d A', StOk R A σ H G ∧ Rp R.K G d v ∧ gf d A = some A' ∧ ∀ σ' H' G', Same G G' → StOk R A' σ' H' G' → Keep A σ A' σ' → Off wr σ σ' → Q σ' H'
def tGs (R : Rt) (wr : List Nat) (gf : GsD) : TGs := fun vs σ H Q => ∃ A G ds A', StOk R A σ H G ∧ RpL R.K G ds vs ∧ gf ds A = some A' ∧ ∀ σ' H' G', Same G G' → StOk R A' σ' H' G' → Keep A σ A' σ' → Off wr σ σ' → Q σ' H'
def gNm (i : Nat) : GD := fun d A => putV i (.fz d) A
def gsNil : GsD := fun ds A => match ds with
  | [] => some A
  | _ => none
def gsCons (g : GD) (r : GsD) : GsD := fun ds A => match ds with
  | [] => none
  | d :: ds => match g d A with
    | none => none
    | some A1 => r ds A1
def gTpl (g : GsD) : GD := fun d A => match d with
  | .tup ds => g ds A
  | .lst ds => g ds A
  | _ => none
def GLen (g : GsD) (n : Nat) : Prop := ∀ ds A A', g ds A = some A' → ds.length = n
theorem glen_nil : GLen gsNil 0 := fun ds A A' h => by cases ds with | nil => rfl | cons _ _ => exact nomatch h
theorem glen_cons {g : GD} {r : GsD} {n : Nat} (h : GLen r n) : GLen (gsCons g r) (n + 1) := fun ds A A' e => by
  cases ds with
  | nil => exact nomatch e
  | cons d ds =>
    dsimp only [gsCons] at e
    cases q : g d A with
    | none => rw [q] at e; exact nomatch e
    | some A1 => rw [q] at e; simp [h _ _ _ e]
section
variable {X : Cx} {T : Tb} {R : Rt} {W : WX} {pos : Pos}
theorem pg_imp {tg : Expr} {t t' : TG} (h : PG X tg t) (w : ∀ v σ H Q, t' v σ H Q → t v σ H Q) : PG X tg t' := ⟨fun pins s σ H v u Q I r q => h.run pins s σ H v u Q I r (w v σ H Q q)⟩
theorem pgs_imp {ts : List Expr} {t t' : TGs} (h : PGs X ts t) (w : ∀ vs σ H Q, t' vs σ H Q → t vs σ H Q) : PGs X ts t' := ⟨fun pins s σ H vs us Q I r q => h.run pins s σ H vs us Q I r (w vs σ H Q q)⟩
theorem pg_or {tg : Expr} {t t' : TG} (h : PG X tg t) (h' : PG X tg t') : PG X tg (fun v σ H Q => t v σ H Q ∨ t' v σ H Q) :=
  ⟨fun pins s σ H v u Q I r q => q.elim (fun q => h.run pins s σ H v u Q I r q) fun q => h'.run pins s σ H v u Q I r q⟩
theorem sg_name {i : Nat} {x : Str} (hN : X.N.Nodup) (hi : X.N[i]? = some x) (hx : Loc X.env.scope x) (hf : X.fn x = true ∨ X.env.scope.names.lookup x = some .local := by first | exact .inl rfl | exact .inr rfl | assumption) : PG X (.Name x pos) (tG R [i] (gNm i)) :=
  pg_imp (pg_name hN hi hx hf) fun v σ H Q ⟨A, G, d, A', s, r, e, q⟩ => by
    obtain ⟨G2, g2, s2, k2⟩ := putV_ok (v := .fz d) s r e
    exact q _ H G2 g2 s2 k2 ⟨List.length_set, fun j hj => List.getElem?_set_ne fun c => hj (by simp [c])⟩
theorem sgs_nil : PGs X [] (tGs R [] gsNil) := pgs_imp pgs_nil fun vs σ H Q ⟨A, G, ds, A', s, r, e, q⟩ => by
  cases ds with
  | cons _ _ => exact nomatch e
  | nil => cases r; cases e; exact ⟨rfl, q σ H G (Same.refl _) s (Keep.refl _ _) ⟨rfl, fun _ _ => rfl⟩⟩
theorem sgs_cons {e : Expr} {es : List Expr} {g : GD} {r : GsD} {w1 w2 : List Nat} (h1 : PG X e (tG R w1 g)) (h2 : PGs X es (tGs R w2 r)) (hs : (assignEach (e :: es) X.env).map (·.2) = assign e X.env :: (assignEach es X.env).map (·.2) := by rfl) : PGs X (e :: es) (tGs R (w1 ++ w2) (gsCons g r)) :=
  pgs_imp (pgs_cons h1 h2 hs) fun vs σ H Q ⟨A, G, ds, A', s, rl, e, q⟩ => by
    cases ds with
    | nil => exact nomatch e
    | cons d ds =>
      dsimp only [gsCons] at e
      cases q1 : g d A with
      | none => rw [q1] at e; exact nomatch e
      | some A1 =>
        rw [q1] at e
        cases rl with
        | cons rd rr =>
          exact ⟨_, _, rfl, A, G, d, A1, s, rd, q1, fun σ1 H1 G1 g1 s1 k1 o1 => ⟨A1, G1, ds, A', s1, rr.mono g1, e, fun σ2 H2 G2 g2 s2 k2 o2 => q σ2 H2 G2 (g1.trans g2) s2 (k1.trans k2) ⟨o2.1.trans o1.1, fun j hj => (o2.2 j fun z => hj (List.mem_append_right _ z)).trans (o1.2 j fun z => hj (List.mem_append_left _ z))⟩⟩⟩
theorem sg_tpl {es : List Expr} {k : Nat} {g : GsD} {n : Nat} {wr : List Nat} (hc : X.calm = true) (h : PGs X es (tGs R wr g)) (hl : GLen g n) (hK : X.K = R.K)
    (hn : (assignEach es X.env).length = n := by rfl) (hst : (assignEach es X.env).findIdx? (·.1) = none := by rfl) : PG X (.Tuple es k pos) (tG R wr (gTpl g)) :=
  pg_imp (pg_or (pg_tup hc h hn hst) (pg_lst hc h hn hst)) fun v σ H Q ⟨A, G, d, A', s, r, e, q⟩ => by
    cases d with
    | tup ds =>
      cases r with
      | tup hq rl => exact .inl ⟨_, _, rfl, by rw [hK]; exact sqT_same s.step.le hq, by rw [← rl.len, hl _ _ _ e], A, G, ds, A', s, rl, e, q⟩
    | lst ds =>
      cases r with
      | lst hq rl => exact .inr ⟨_, _, rfl, by exact .inl (.inl (s.step.le _ _ hq)), by rw [← rl.len, hl _ _ _ e], A, G, ds, A', s, rl, e, q⟩
    | _ => exact nomatch e

/-! ### what is walked -/
inductive IR where
  | ok (items : List D) (lk : List Nat) (A : AS) | exc (c : Nat) (fs : List D) (A : AS) | fail
def Wk (K : PySem.W.Frag) (A1 : AS) (σ1 : ST) (G1 : Hp) (J : It) (items : List D) : Prop := ∀ (R : Rt) A σ H G, R.K = K → StOk R A σ H G → Same G1 G → Keep A1 σ1 A σ →
  (∀ i d, items[i]? = some d → J.go i H ∧ ∀ x H', J.yld i H x H' → ∃ G', Step G H G' H' ∧ Rp K G' d x) ∧ J.stop items.length H
def PostI (T : Tb) (R : Rt) (W : WX) (A : AS) (G : Hp) (σ : ST) (Rr : It → Hp → Prop) (r : IR) : Prop :=
  match r with
  | .ok items lk A' => ∀ J H' G', Same G G' → StOk R A' σ H' G' → KeepA A A' → (∀ i ∈ lk, ∀ d, sget A i ≠ .lk d) → Wk R.K A' σ G' J items → Rr J H'
  | .exc c fs A' => ∀ cls dx H' G', Same G G' → StOk R A' σ H' G' → XR T R.K G' H' c fs cls dx → W cls dx σ H'
  | .fail => False
def tI (T : Tb) (R : Rt) (W : WX) (f : AS → IR) : TI := fun σ H Rr => ∃ A G, StOk R A σ H G ∧ PostI T R W A G σ Rr (f A)
theorem pi_imp {tg iter : Expr} {t t' : TI} (h : PI X tg iter t) (w : ∀ σ H Rr, t' σ H Rr → t σ H Rr) : PI X tg iter t' := ⟨fun pins s σ H Rr I q => h.run pins s σ H Rr I (w σ H Rr q)⟩

def unlk1 (i : Nat) (A : AS) : AS := match sget A i with
  | .lk d => sset A i (.ow d)
  | _ => A
def unlk : List Nat → AS → AS
  | [], A => A
  | i :: r, A => unlk r (unlk1 i A)
theorem unlk1_ok {A : AS} {σ : ST} {H G : Hp} {i : Nat} (s : StOk R A σ H G) : StOk R (unlk1 i A) σ H G := by
  unfold unlk1
  cases q : sget A i with
  | lk d =>
    dsimp only
    have key : ∀ j, (sget (sset A i (.ow d)) j).isOwn = true → (sget A j).isOwn = true := fun j h => by
      by_cases c : i = j
      · subst c; rw [q]; rfl
      · rw [sget_ne _ _ _ _ c] at h; exact h
    refine ⟨s.step, (sset_len _ _ _).trans s.len, fun j => ?_, fun j k a h1 h2 => s.inj j k a (key j h1) (key k h2)⟩
    by_cases c : i = j
    · subst c
      have at_ := s.at_ i
      rw [q] at at_
      rcases sget_eq A i (.ow d) with z | ⟨z, _⟩
      · rw [z]; exact at_
      · rw [z]; trivial
    · rw [sget_ne _ _ _ _ c]; exact s.at_ j
  | _ => exact s
theorem unlk_ok {σ : ST} {H G : Hp} : ∀ (l : List Nat) {A : AS}, StOk R A σ H G → StOk R (unlk l A) σ H G
  | [], _, s => s
  | i :: r, _, s => unlk_ok r (unlk1_ok s)
theorem unlk_keep : ∀ (l : List Nat) {A A' : AS} {σ σ' : ST}, Keep A σ A' σ' → (∀ i ∈ l, ∀ d, sget A i ≠ .lk d) → Keep A σ (unlk l A') σ'
  | [], _, _, _, _, k, _ => k
  | i :: r, A, A', σ, σ', k, h => by
    refine unlk_keep r (fun j d e => ?_) fun j hj => h j (List.mem_cons_of_mem _ hj)
    obtain ⟨k1, k2⟩ := k j d e
    refine ⟨?_, k2⟩
    have c : i ≠ j := fun c => h i List.mem_cons_self d (by rw [c]; exact e)
    unfold unlk1
    cases q : sget A' i with
    | lk d' => dsimp only; rw [sget_ne _ _ _ _ c]; exact k1
    | _ => exact k1

/-! ### a loop over it -/
def forL (g : GD) (body : AS → SR) : List D → AS → SR
  | [], A => .nx A
  | d :: r, A => match g d A with
    | none => .fail
    | some A1 => match body A1 with
      | .nx A2 => forL g body r A2
      | .ct A2 => forL g body r A2
      | .bk A2 => .nx A2
      | x => x
def fin (lk : List Nat) : SR → SR
  | .nx A => .nx (unlk lk A)
  | .exc c fs A => .exc c fs (unlk lk A)
  | .rt d o => .rt d o
  | _ => .fail
def sFor (fi : AS → IR) (g : GD) (body : AS → SR) : AS → SR := fun A => match fi A with
  | .ok items lk A1 => fin lk (forL g body items A1)
  | .exc c fs A1 => .exc c fs A1
  | .fail => .fail
theorem s_for {tg iter : Expr} {body : List Stmt} {fi : AS → IR} {g : GD} {wr : List Nat} {f : AS → SR} (hp : PassesOwn (model X.prog X.w) X.A X.env X.xe) (hc : X.calm = true) (hi : PI X tg iter (tI T R W fi)) (hg : PG X tg (tG R wr g)) (hb : PSs X body (tS T R W f))
    (hs : ∀ x, foldedSetIterable iter X.env x = pure x := by intro _; rfl) : PS X (.For tg iter body [] pos) (tS T R W (sFor fi g f)) := ps_imp (ps_for hp hc hi hg hb hs) fun D σ H ⟨A, G, s, p⟩ => by
  refine ⟨A, G, s, ?_⟩
  unfold sFor at p
  cases q : fi A with
  | fail => rw [q] at p; exact p
  | exc c fs A1 => rw [q] at p; exact fun cls dx H' G' => p cls dx σ H' G'
  | ok items lk A1 =>
    rw [q] at p
    intro J H1 G1 g1 s1 k1 hlk wk
    dsimp only at p
    -- the word: what is left of the items gives the end
    refine ⟨fun i m σ' H' => i + m = items.length ∧ ∃ A' G', Same G1 G' ∧ StOk R A' σ' H' G' ∧ Keep A1 σ A' σ' ∧ PostS T R W A G σ D (fin lk (forL g f (items.drop i) A')), ⟨items.length, by omega, A1, G1, Same.refl _, s1, Keep.refl _ _, by simpa using p⟩, ?_⟩
    rintro i m σ' H' ⟨him, A', G', g', s', k', p'⟩
    obtain ⟨w1, w2⟩ := wk R A' σ' H' G' rfl s' g' k'
    have kA : Keep A σ A' σ' := (Keep.of k1).trans k'
    by_cases hlt : i < items.length
    · obtain ⟨go, yl⟩ := w1 i items[i] (by simp [hlt])
      have hd : items.drop i = items[i] :: items.drop (i + 1) := by rw [List.drop_eq_getElem_cons hlt]
      rw [hd] at p'
      dsimp only [forL] at p'
      refine .inr ⟨go, fun σ2 H2 => ∃ A2 G2, Same G1 G2 ∧ StOk R A2 σ2 H2 G2 ∧ Keep A1 σ A2 σ2 ∧ PostS T R W A G σ D (fin lk (forL g f (items.drop (i + 1)) A2)), fun σ2 H2 ⟨A2, G2, a, b, c, d⟩ => ⟨m - 1, by omega, by omega, A2, G2, a, b, c, d⟩, fun x H2 y => ?_⟩
      obtain ⟨G2, st2, rp⟩ := yl x H2 y
      have s2 := s'.next st2
      cases qg : g items[i] A' with
      | none => rw [qg] at p'; exact p'.elim
      | some A3 =>
        rw [qg] at p'
        dsimp only at p'
        refine ⟨A', G2, items[i], A3, s2, rp, qg, fun σ3 H3 G3 g3 s3 k3 _ => ?_⟩
        refine ⟨A3, G3, s3, ?_⟩
        have gg : Same G1 G3 := (g'.trans st2.sG).trans g3
        have kk : Keep A1 σ A3 σ3 := k'.trans k3
        cases qb : f A3 with
        | fail => rw [qb] at p'; exact p'
        | nx A4 => rw [qb] at p'; exact fun σ4 H4 G4 g4 s4 k4 => ⟨A4, G4, gg.trans g4, s4, kk.trans k4, p'⟩
        | ct A4 => rw [qb] at p'; exact fun σ4 H4 G4 g4 s4 k4 => ⟨A4, G4, gg.trans g4, s4, kk.trans k4, p'⟩
        | bk A4 => rw [qb] at p'; exact fun σ4 H4 G4 g4 s4 k4 => p' σ4 H4 G4 ((g1.trans gg).trans g4) (unlk_ok lk s4) (unlk_keep lk ((Keep.of k1).trans (kk.trans k4)) hlk)
        | rt d o => rw [qb] at p'; exact p'
        | exc c fs A4 => rw [qb] at p'; exact fun cls dx σ4 H4 G4 g4 s4 xr => p' cls dx σ4 H4 G4 ((g1.trans gg).trans g4) (unlk_ok lk s4) xr
    · have e : i = items.length := by omega
      subst e
      refine .inl ⟨w2, ?_⟩
      rw [List.drop_length] at p'
      exact p' σ' H' G' (g1.trans g') (unlk_ok lk s') (unlk_keep lk kA hlk)

/-! ### while: the measure is read off the state -/
def whL (t : AS → TR) (body : AS → SR) : Nat → AS → SR
  | 0, _ => .fail
  | n + 1, A => match t A with
    | .ok true A1 => match body A1 with
      | .nx A2 => whL t body n A2
      | .ct A2 => whL t body n A2
      | .bk A2 => .nx A2
      | x => x
    | .ok false A1 => .nx A1
    | .exc c fs A1 => .exc c fs A1
    | .fail => .fail
def sWh (μ : AS → Nat) (t : AS → TR) (body : AS → SR) : AS → SR := fun A => whL t body (μ A) A
theorem s_while {c : Expr} {body : List Stmt} {t : AS → TR} {f : AS → SR} (μ : AS → Nat) (hp : PassesOwn (model X.prog X.w) X.A X.env X.xe) (hc : PT X c (tT T R W t)) (hb : PSs X body (tS T R W f)) : PS X (.While c body [] pos) (tS T R W (sWh μ t f)) := ps_imp (ps_while hp hc hb) fun D σ H ⟨A, G, s, p⟩ => by
  unfold sWh at p
  refine ⟨fun m σ' H' => ∃ A' G', Same G G' ∧ StOk R A' σ' H' G' ∧ Keep A σ A' σ' ∧ PostS T R W A G σ D (whL t f m A'), ⟨μ A, A, G, Same.refl _, s, Keep.refl _ _, p⟩, ?_⟩
  rintro m σ' H' ⟨A', G', g', s', k', p'⟩
  cases m with
  | zero => exact p'.elim
  | succ n =>
    dsimp only [whL] at p'
    refine ⟨A', G', s', ?_⟩
    cases qt : t A' with
    | fail => rw [qt] at p'; exact p'
    | exc c fs A1 => rw [qt] at p'; exact fun cls dx H2 G2 g2 => p' cls dx σ' H2 G2 (g'.trans g2)
    | ok b A1 =>
      rw [qt] at p'
      intro H1 G1 g1 s1 k1
      cases b with
      | false => rw [if_neg Bool.false_ne_true]; exact p' σ' H1 G1 (g'.trans g1) s1 (k'.trans (.of k1))
      | true =>
        rw [if_pos rfl]
        dsimp only at p'
        refine ⟨fun σ2 H2 => ∃ A2 G2, Same G G2 ∧ StOk R A2 σ2 H2 G2 ∧ Keep A σ A2 σ2 ∧ PostS T R W A G σ D (whL t f n A2), fun σ2 H2 h => ⟨n, Nat.lt_succ_self n, h⟩, A1, G1, s1, ?_⟩
        have gg := g'.trans g1
        have kk : Keep A σ A1 σ' := k'.trans (.of k1)
        cases qb : f A1 with
        | fail => rw [qb] at p'; exact p'
        | nx A4 => rw [qb] at p'; exact fun σ4 H4 G4 g4 s4 k4 => ⟨A4, G4, gg.trans g4, s4, kk.trans k4, p'⟩
        | ct A4 => rw [qb] at p'; exact fun σ4 H4 G4 g4 s4 k4 => ⟨A4, G4, gg.trans g4, s4, kk.trans k4, p'⟩
        | bk A4 => rw [qb] at p'; exact fun σ4 H4 G4 g4 s4 k4 => p' σ4 H4 G4 (gg.trans g4) s4 (kk.trans k4)
        | rt d o => rw [qb] at p'; exact p'
        | exc c fs A4 => rw [qb] at p'; exact fun cls dx σ4 H4 G4 g4 s4 xr => p' cls dx σ4 H4 G4 (gg.trans g4) s4 xr
end
end MR

namespace MR
open PySem PySem.Spec PyProof.Rows L2

/-! ### sources -/
def seqD : D → Option (List D)
  | .lst ds => some ds
  | .tup ds => some ds
  | .frl ds => some ds
  | _ => none
/-- what is walked of a value in hand (the slots that are locked for the while) -/
def srcOf (v : Vm) (A : AS) : Option (List D × List Nat × AS) := match v with
  | .fz d => match seqD d with
    | some ds => some (ds, [], A)
    | none => none
  | .tmp _ => none
  | .sl i => match sget A i with
    | .fz d => match seqD d with
      | some ds => some (ds, [], A)
      | none => none
    | .lk d => match seqD d with
      | some ds => some (ds, [], A)
      | none => none
    | .ow d => match seqD d with
      | some ds => some (ds, [i], sset A i (.lk d))
      | none => none
    | .un => none
    | .xn _ _ => none
def SrcOk (K : PySem.W.Frag) (A1 : AS) (σ1 : ST) (G1 : Hp) (b : Bool) (a : Addr) (ds : List D) : Prop := ∀ (R : Rt) A σ H G, R.K = K → StOk R A σ H G → Same G1 G → Keep A1 σ1 A σ → ∃ xs, SqX b K H a xs ∧ RpL K G ds xs
section
variable {R : Rt} {A A' : AS} {σ : ST} {H G : Hp}
theorem SrcOk.mono {A1 A2 : AS} {σ1 σ2 : ST} {G1 G2 : Hp} {b : Bool} {a : Addr} {ds : List D} (h : SrcOk R.K A1 σ1 G1 b a ds) (g : Same G1 G2) (k : Keep A1 σ1 A2 σ2) : SrcOk R.K A2 σ2 G2 b a ds :=
  fun R2 A σ H G e s g' k' => h R2 A σ H G e s (g.trans g') (k.trans k')
theorem seq_frozen {d : D} {x : V} {ds : List D} (r : Rp R.K G d x) (e : seqD d = some ds) : ∃ b a, x = .ref a ∧ SrcOk R.K A σ G b a ds := by
  cases d with
  | lst l =>
    cases e
    cases r with
    | lst hq rl => exact ⟨true, _, rfl, fun R2 A' σ' H' G' eK s g k => ⟨_, .inl (.inl ((g.trans s.step.le) _ _ hq)), rl.mono g⟩⟩
  | tup l =>
    cases e
    cases r with
    | tup hq rl => exact ⟨false, _, rfl, fun R2 A' σ' H' G' eK s g k => ⟨_, sqT_same (g.trans s.step.le) hq, rl.mono g⟩⟩
  | frl l =>
    cases e
    cases r with
    | frl hq rl => exact ⟨true, _, rfl, fun R2 A' σ' H' G' eK s g k => ⟨_, (g.trans s.step.le).seq hq, rl.mono g⟩⟩
  | _ => exact nomatch e
theorem seq_locked {i : Nat} {d : D} {x : V} {ds : List D} (s : StOk R A σ H G) (q : sget A i = .lk d) (ex : σ[i]? = some (some x)) (e : seqD d = some ds) : ∃ b a, x = .ref a ∧ SrcOk R.K A σ G b a ds := by
  have at_ := s.at_ i
  rw [q] at at_
  obtain ⟨a, e1, g, h0, w⟩ := at_
  rw [ex] at e1; cases e1
  cases d with
  | lst l =>
    cases e
    refine ⟨true, a, rfl, fun R2 A' σ' H' G' eK s' g' k' => ?_⟩
    obtain ⟨kq, ke⟩ := k' i _ q
    have at2 := s'.at_ i
    rw [kq] at at2
    obtain ⟨a2, e2, _, _, vs2, w1, w2⟩ := at2
    rw [ke, ex] at e2
    cases e2
    exact ⟨vs2, .inl (.inl w1), by rw [← eK]; exact w2⟩
  | dic l => exact nomatch e
  | _ => exact w.elim
theorem lock_ok {i : Nat} {d : D} (s : StOk R A σ H G) (q : sget A i = .ow d) : StOk R (sset A i (.lk d)) σ H G := by
  have key : ∀ j, (sget (sset A i (.lk d)) j).isOwn = true → (sget A j).isOwn = true := fun j h => by
    by_cases c : i = j
    · subst c; rw [q]; rfl
    · rw [sget_ne _ _ _ _ c] at h; exact h
  refine ⟨s.step, (sset_len _ _ _).trans s.len, fun j => ?_, fun j k a h1 h2 => s.inj j k a (key j h1) (key k h2)⟩
  by_cases c : i = j
  · subst c
    have at_ := s.at_ i
    rw [q] at at_
    rcases sget_eq A i (.lk d) with z | ⟨z, _⟩
    · rw [z]; exact at_
    · rw [z]; trivial
  · rw [sget_ne _ _ _ _ c]; exact s.at_ j
theorem srcOf_ok {v : Vm} {x : V} {ds : List D} {lk : List Nat} (s : StOk R A σ H G) (r : VR R A σ H G v x) (h : srcOf v A = some (ds, lk, A')) :
    ∃ b a, x = .ref a ∧ StOk R A' σ H G ∧ KeepA A A' ∧ (∀ i ∈ lk, ∀ d, sget A i ≠ .lk d) ∧ SrcOk R.K A' σ G b a ds := by
  cases v with
  | tmp d => exact nomatch h
  | fz d =>
    dsimp only [srcOf] at h
    cases q : seqD d with
    | none => rw [q] at h; exact nomatch h
    | some l =>
      rw [q] at h
      cases h
      obtain ⟨b, a, e, k⟩ := seq_frozen (A := A) (σ := σ) r q
      exact ⟨b, a, e, s, KeepA.refl _, fun i hi => by simp at hi, k⟩
  | sl i =>
    dsimp only [srcOf] at h
    have ex : σ[i]? = some (some x) := r
    have at_ := s.at_ i
    cases q0 : sget A i with
    | un => rw [q0] at h; exact nomatch h
    | xn _ _ => rw [q0] at h; exact nomatch h
    | fz d =>
      rw [q0] at h at_
      obtain ⟨v, e1, rv⟩ := at_
      rw [ex] at e1; cases e1
      dsimp only at h
      cases q : seqD d with
      | none => rw [q] at h; exact nomatch h
      | some l =>
        rw [q] at h
        cases h
        obtain ⟨b, a, e, k⟩ := seq_frozen (A := A) (σ := σ) rv q
        exact ⟨b, a, e, s, KeepA.refl _, fun i hi => by simp at hi, k⟩
    | lk d =>
      rw [q0] at h
      dsimp only at h
      cases q : seqD d with
      | none => rw [q] at h; exact nomatch h
      | some l =>
        rw [q] at h
        cases h
        obtain ⟨b, a, e, k⟩ := seq_locked s q0 ex q
        exact ⟨b, a, e, s, KeepA.refl _, fun i hi => by simp at hi, k⟩
    | ow d =>
      rw [q0] at h
      dsimp only at h
      cases q : seqD d with
      | none => rw [q] at h; exact nomatch h
      | some l =>
        rw [q] at h
        cases h
        have s' := lock_ok s q0
        have hi : i < A.length := by
          by_cases c : i < A.length
          · exact c
          · rw [sget_big _ _ (by omega)] at q0; cases q0
        have ql : sget (sset A i (.lk d)) i = .lk d := by
          rcases sget_eq A i (.lk d) with z | ⟨_, z⟩
          · exact z
          · omega
        obtain ⟨b, a, e, k⟩ := seq_locked s' ql ex q
        exact ⟨b, a, e, s', sset_keepA (fun d' z => by rw [q0] at z; exact nomatch z), (fun j hj d' z => by rw [List.mem_singleton] at hj; subst hj; rw [q0] at z; exact nomatch z), k⟩
end

/-- a sequence -/
def iSq (f : AS → ER) : AS → IR := fun A => match f A with
  | .ok v A1 => match srcOf (hold v) A1 with
    | some (ds, lk, A2) => .ok ds lk A2
    | none => .fail
  | .exc c fs A1 => .exc c fs A1
  | .fail => .fail
theorem unlk_none {A A1 : AS} {l : List Nat} (k : KeepA A A1) (h : ∀ i ∈ l, ∀ d, sget A1 i ≠ .lk d) : ∀ i ∈ l, ∀ d, sget A i ≠ .lk d := fun i hi d e => h i hi d (k i d e)
section
variable {X : Cx} {T : Tb} {R : Rt} {W : WX} {pos : Pos} {tg : Expr}
theorem wkX {A : AS} {σ : ST} {G : Hp} {b : Bool} {a : Addr} {ds : List D} (k : SrcOk R.K A σ G b a ds) : Wk R.K A σ G (ItX b R.K a) ds := fun R2 A' σ' H' G' eK s' g' k' => by
  obtain ⟨xs, hq, rl⟩ := k R2 A' σ' H' G' eK s' g' k'
  have w := walkX (b := b) (K := R.K) (a := a) (xs := xs)
  refine ⟨fun i d e => ?_, by rw [rl.len]; exact w.stops H' hq⟩
  obtain ⟨x, ex, rx⟩ := rl.getD e
  have hi : i < xs.length := (List.getElem?_eq_some_iff.mp ex).1
  refine ⟨w.goes i H' hi hq, fun y H2 yl => ?_⟩
  obtain ⟨e2, e3⟩ := w.yields i H' y H2 hi hq yl
  rw [ex] at e3; cases e3
  subst e2
  exact ⟨G', Step.refl s'.step.le, rx⟩
theorem si_seq {e : Expr} {f : AS → ER} (hK : X.K = R.K) (he : PE X e (tE T R W f)) : PI X tg e (tI T R W (iSq f)) := ⟨fun pins s σ H Rr I ⟨A, G, st, p⟩ => by
  refine thn (he.run pins s σ H (fun x H1 => ∃ b a xs, x = .ref a ∧ SqX b X.K H1 a xs ∧ Rr (ItX b X.K a) H1) I ⟨A, G, st, ?_⟩) fun v s1 ⟨x, H1, I1, r1, b, a, xs, e, hq, q⟩ => ?_
  · unfold iSq at p
    cases q : f A with
    | fail => rw [q] at p; exact p
    | exc c fs A1 => rw [q] at p; exact p
    | ok v A1 =>
      rw [q] at p
      intro x H1 G1 g1 s1 k1 r1
      obtain ⟨G2, g2, s2, r2⟩ := hold_ok s1 r1
      dsimp only at p
      cases q2 : srcOf (hold v) A1 with
      | none => rw [q2] at p; exact p.elim
      | some y =>
        obtain ⟨ds, lk, A2⟩ := y
        rw [q2] at p
        obtain ⟨b, a, e, s3, k3, hl, so⟩ := srcOf_ok s2 r2 q2
        obtain ⟨xs, hq, rl⟩ := so R A2 σ H1 G2 rfl s3 (Same.refl _) (Keep.refl _ _)
        refine ⟨b, a, xs, e, by rw [hK]; exact hq, p _ H1 G2 (g1.trans g2) s3 (k1.trans k3) (unlk_none k1 hl) (by rw [hK]; exact wkX so)⟩
  · subst e
    cases r1
    exact pieX I1 hq q⟩

/-! ### range -/
def inB : Int → Bool
  | .ofNat n => Nat.blt n 4611686018427387904
  | .negSucc n => Nat.blt n 4611686018427387904
theorem inB_ok {i : Int} (h : inB i = true) : -(2 ^ 62) ≤ i ∧ i < 2 ^ 62 := by
  have e : (2 : Int) ^ 62 = 4611686018427387904 := by decide
  rw [e]
  cases i with
  | ofNat n =>
    have h : n < 4611686018427387904 := by simpa [inB] using h
    have : Int.ofNat n = (n : Int) := rfl
    omega
  | negSucc n =>
    have h : n < 4611686018427387904 := by simpa [inB] using h
    have : Int.negSucc n = -((n : Int) + 1) := Int.negSucc_eq n
    omega
theorem inB_of {i : Int} (h1 : -4611686018427387904 ≤ i) (h2 : i < 4611686018427387904) : inB i = true := by
  cases i with
  | ofNat n =>
    have : Int.ofNat n = (n : Int) := rfl
    simp [inB]; omega
  | negSucc n =>
    have : Int.negSucc n = -((n : Int) + 1) := Int.negSucc_eq n
    simp [inB]; omega
def rangeD (lo : Int) (c : Int) : Nat → List D
  | 0 => []
  | n + 1 => .int lo :: rangeD (lo + c) c n
theorem rangeD_len (c : Int) : ∀ (n : Nat) (lo : Int), (rangeD lo c n).length = n
  | 0, _ => rfl
  | n + 1, lo => by simp [rangeD, rangeD_len c n]
theorem rangeD_get (c : Int) : ∀ (n : Nat) (lo : Int) (i : Nat) (d : D), (rangeD lo c n)[i]? = some d → i < n ∧ d = .int (lo + i * c)
  | 0, _, _, _, h => by simp [rangeD] at h
  | n + 1, lo, 0, d, h => by simp [rangeD] at h; subst h; exact ⟨by omega, by simp⟩
  | n + 1, lo, i + 1, d, h => by
    have h' : (rangeD (lo + c) c n)[i]? = some d := by simpa [rangeD] using h
    obtain ⟨a, b⟩ := rangeD_get c n (lo + c) i d h'
    refine ⟨by omega, ?_⟩
    rw [b]
    congr 1
    have : ((i + 1 : Nat) : Int) * c = (i : Int) * c + c := by rw [Int.natCast_add, Int.add_mul]; simp
    rw [this]; omega
def rg1 : List Vm → Option (List D)
  | [.fz (.int j)] => if inB j then some (rangeD 0 1 j.toNat) else none
  | _ => none
def rg2 : List Vm → Option (List D)
  | [.fz (.int i), .fz (.int j)] => if inB i && inB j then some (rangeD i 1 (j - i).toNat) else none
  | _ => none
def rg3 : List Vm → Option (List D)
  | [.fz (.int i), .fz (.int j), .fz (.int c)] => if (decide (c ≠ 0) && decide (c.natAbs < 1073741824) && Builtin.Range.small i j c && decide (0 ≤ Builtin.Range.rangeSize i j c)) then some (rangeD i c (Builtin.Range.rangeSize i j c).toNat) else none
  | _ => none
def iRg (rg : List Vm → Option (List D)) (f : AS → AR) : AS → IR := fun A => match f A with
  | .ok vs A1 => match rg vs with
    | some ds => .ok ds [] A1
    | none => .fail
  | .exc c fs A1 => .exc c fs A1
  | .fail => .fail
theorem wkR {A : AS} {σ : ST} {G : Hp} {lo : Int} {n : Nat} : Wk R.K A σ G (Itr lo n) (rangeD lo 1 n) := fun R2 A' σ' H' G' eK s' g' k' => by
  refine ⟨fun i d e => ?_, by rw [rangeD_len]; exact Nat.le_refl _⟩
  obtain ⟨hi, ed⟩ := rangeD_get _ _ _ _ _ e
  refine ⟨hi, fun x H2 ⟨e1, e2⟩ => ⟨G', ?_, ?_⟩⟩
  · subst e1; exact Step.refl s'.step.le
  · subst e2 ed; rw [Int.mul_one]; exact .int _
theorem wkRC {A : AS} {σ : ST} {G : Hp} {lo c : Int} {n : Nat} : Wk R.K A σ G (Itc lo c n) (rangeD lo c n) := fun R2 A' σ' H' G' eK s' g' k' => by
  refine ⟨fun i d e => ?_, by rw [rangeD_len]; exact Nat.le_refl _⟩
  obtain ⟨hi, ed⟩ := rangeD_get _ _ _ _ _ e
  refine ⟨hi, fun x H2 ⟨e1, e2⟩ => ⟨G', ?_, ?_⟩⟩
  · subst e1; exact Step.refl s'.step.le
  · subst e2 ed; exact .int _
theorem vint {A : AS} {σ : ST} {H G : Hp} {i : Int} {x : V} (r : VR R A σ H G (.fz (.int i)) x) : x = .int i := by
  have r : Rp R.K G (.int i) x := r
  cases r; rfl
theorem rg_split {A : AS} {G : Hp} {σ : ST} {rg : List Vm → Option (List D)} {f : AS → AR} {Rr : It → Hp → Prop} (p : PostI T R W A G σ Rr (iRg rg f A)) (Q : List V → Hp → Prop)
    (h : ∀ vs ds A1 xs H1 G1, f A = .ok vs A1 → rg vs = some ds → StOk R A1 σ H1 G1 → VRL R A1 σ H1 G1 vs xs → (∀ J, Wk R.K A1 σ G1 J ds → Rr J H1) → Q xs H1) : PostA T R W A G σ Q (f A) := by
  unfold iRg at p
  cases q : f A with
  | fail => rw [q] at p; exact p
  | exc c fs A1 => rw [q] at p; exact p
  | ok vs A1 =>
    rw [q] at p
    intro xs H1 G1 g1 s1 k1 r1
    dsimp only at p
    cases q2 : rg vs with
    | none => rw [q2] at p; exact p.elim
    | some ds =>
      rw [q2] at p
      exact h vs ds A1 xs H1 G1 q q2 s1 r1 fun J w => p J H1 G1 g1 s1 k1 (fun i hi => by simp at hi) w
theorem si_range1 {a : Expr} {f : AS → AR} {p : Pos} (hg : Gl X "range") (hm : X.mg "range" = none) (ha : PA X [a] (tA T R W f)) (hs : starEach [a] X.env = [(false, eval a X.env)] := by rfl) :
    PI X tg (.Call (.Name "range" p) [a] [] pos) (tI T R W (iRg rg1 f)) := pi_imp (pi_range1 hg hm ha hs) fun σ H Rr ⟨A, G, s, p⟩ => by
  refine ⟨A, G, s, rg_split p _ fun vs ds A1 xs H1 G1 q q2 s1 r1 k => ?_⟩
  unfold rg1 at q2
  split at q2
  · split at q2
    · rename_i j hj
      cases q2
      cases r1 with
      | cons _ rv rn =>
        cases rn
        have b := inB_ok hj
        exact ⟨j, by rw [vint rv], b.1, b.2, k _ wkR⟩
    · exact nomatch q2
  · exact nomatch q2
theorem si_range2 {a b : Expr} {f : AS → AR} {p : Pos} (hg : Gl X "range") (hm : X.mg "range" = none) (ha : PA X [a, b] (tA T R W f)) (hs : starEach [a, b] X.env = [(false, eval a X.env), (false, eval b X.env)] := by rfl) (hs2 : starEach [b] X.env = [(false, eval b X.env)] := by rfl) :
    PI X tg (.Call (.Name "range" p) [a, b] [] pos) (tI T R W (iRg rg2 f)) := pi_imp (pi_range2 hg hm ha hs hs2) fun σ H Rr ⟨A, G, s, p⟩ => by
  refine ⟨A, G, s, rg_split p _ fun vs ds A1 xs H1 G1 q q2 s1 r1 k => ?_⟩
  unfold rg2 at q2
  split at q2
  · split at q2
    · rename_i i j hj
      cases q2
      rw [Bool.and_eq_true] at hj
      cases r1 with
      | cons _ rv rn =>
        cases rn with
        | cons _ rw_ rn =>
          cases rn
          have b := inB_ok hj.1
          have c := inB_ok hj.2
          exact ⟨i, j, by rw [vint rv, vint rw_], ⟨b.1, b.2, c.1, c.2⟩, k _ wkR⟩
    · exact nomatch q2
  · exact nomatch q2
theorem si_range3 {a b c : Expr} {f : AS → AR} {p : Pos} (hg : Gl X "range") (hm : X.mg "range" = none) (ha : PA X [a, b, c] (tA T R W f)) (hs : starEach [a, b, c] X.env = (false, eval a X.env) :: starEach [b, c] X.env := by rfl) (hpl : (backTo pos (starEach [b, c] X.env)).any (·.1) = false := by rfl) :
    PI X tg (.Call (.Name "range" p) [a, b, c] [] pos) (tI T R W (iRg rg3 f)) := pi_imp (pi_range3 hg hm ha hs hpl) fun σ H Rr ⟨A, G, s, p⟩ => by
  refine ⟨A, G, s, rg_split p _ fun vs ds A1 xs H1 G1 q q2 s1 r1 k => ?_⟩
  unfold rg3 at q2
  split at q2
  · split at q2
    · rename_i i j c hj
      cases q2
      simp only [Bool.and_eq_true, decide_eq_true_eq] at hj
      obtain ⟨⟨⟨h1, h2⟩, h3⟩, h4⟩ := hj
      cases r1 with
      | cons _ rv rn =>
        cases rn with
        | cons _ rw_ rn =>
          cases rn with
          | cons _ rc rn =>
            cases rn
            exact ⟨i, j, c, _, by rw [vint rv, vint rw_, vint rc], ⟨h1, h2, h3, (Int.toNat_of_nonneg h4).symm⟩, k _ wkRC⟩
    · exact nomatch q2
  · exact nomatch q2

/-! ### zip and enumerate -/
def zipD : List D → List D → List D
  | a :: as, b :: bs => .tup [a, b] :: zipD as bs
  | _, _ => []
def enuD : Int → List D → List D
  | _, [] => []
  | k, a :: as => .tup [.int k, a] :: enuD (k + 1) as
theorem zipD_len : ∀ (xs ys : List D), (zipD xs ys).length = min xs.length ys.length
  | [], ys => by simp [zipD]
  | x :: xs, [] => by simp [zipD]
  | x :: xs, y :: ys => by simp [zipD, zipD_len xs ys]
theorem zipD_get : ∀ (xs ys : List D) (i : Nat) (d : D), (zipD xs ys)[i]? = some d → ∃ a b, xs[i]? = some a ∧ ys[i]? = some b ∧ d = .tup [a, b]
  | [], ys, i, d, h => by simp [zipD] at h
  | x :: xs, [], i, d, h => by simp [zipD] at h
  | x :: xs, y :: ys, 0, d, h => by simp [zipD] at h; exact ⟨x, y, rfl, rfl, h.symm⟩
  | x :: xs, y :: ys, i + 1, d, h => by simpa using zipD_get xs ys i d (by simpa [zipD] using h)
theorem enuD_len : ∀ (xs : List D) (k : Int), (enuD k xs).length = xs.length
  | [], _ => rfl
  | x :: xs, k => by simp [enuD, enuD_len xs]
theorem enuD_get : ∀ (xs : List D) (k : Int) (i : Nat) (d : D), (enuD k xs)[i]? = some d → ∃ a, xs[i]? = some a ∧ d = .tup [.int (k + i), a]
  | [], k, i, d, h => by simp [enuD] at h
  | x :: xs, k, 0, d, h => by simp [enuD] at h; exact ⟨x, rfl, by rw [← h]; simp⟩
  | x :: xs, k, i + 1, d, h => by
    obtain ⟨a, e1, e2⟩ := enuD_get xs (k + 1) i d (by simpa [enuD] using h)
    refine ⟨a, by simpa using e1, ?_⟩
    rw [e2]
    congr 3
    omega
theorem yield_pair {H G H' : Hp} {T0 : Addr} {x y : V} {a b : D} (s : Same G H) (n : H T0 = none) (e : H' = upd H T0 (.tup [x, y])) (ra : Rp R.K G a x) (rb : Rp R.K G b y) : ∃ G', Step G H G' H' ∧ Rp R.K G' (.tup [a, b]) (.ref T0) := by
  subst e
  have st := Step.lay (o := .tup [x, y]) s n
  exact ⟨_, st, .tup (.inl (.inl upd_same)) (.cons (ra.mono st.sG) (.cons (rb.mono st.sG) .nil))⟩
theorem wkZ {A : AS} {σ : ST} {G : Hp} {b c : Bool} {a d : Addr} {ds es : List D} (k : SrcOk R.K A σ G b a ds) (k2 : SrcOk R.K A σ G c d es) : Wk R.K A σ G (ItZ R.K b c a d) (zipD ds es) := fun R2 A' σ' H' G' eK s' g' k' => by
  obtain ⟨xs, hq, rl⟩ := k R2 A' σ' H' G' eK s' g' k'
  obtain ⟨ys, hq2, rl2⟩ := k2 R2 A' σ' H' G' eK s' g' k'
  refine ⟨fun i z e => ?_, xs, ys, hq, hq2, by rw [zipD_len, rl.len, rl2.len]⟩
  obtain ⟨p, q, e1, e2, ez⟩ := zipD_get _ _ _ _ e
  obtain ⟨x, ex, rx⟩ := rl.getD e1
  obtain ⟨y, ey, ry⟩ := rl2.getD e2
  refine ⟨⟨⟨x, xs, hq, ex⟩, y, ys, hq2, ey⟩, fun v H2 ⟨T0, x', y', ev, n, eH, u1, u2⟩ => ?_⟩
  have f1 := u1 xs hq
  have f2 := u2 ys hq2
  rw [ex] at f1; cases f1
  rw [ey] at f2; cases f2
  subst ev ez
  exact yield_pair s'.step.le n eH rx ry
theorem wkE {A : AS} {σ : ST} {G : Hp} {b : Bool} {a : Addr} {k0 : Int} {ds : List D} (k : SrcOk R.K A σ G b a ds) : Wk R.K A σ G (ItE R.K b a k0) (enuD k0 ds) := fun R2 A' σ' H' G' eK s' g' k' => by
  obtain ⟨xs, hq, rl⟩ := k R2 A' σ' H' G' eK s' g' k'
  refine ⟨fun i z e => ?_, xs, hq, by rw [enuD_len, rl.len]⟩
  obtain ⟨p, e1, ez⟩ := enuD_get _ _ _ _ e
  obtain ⟨x, ex, rx⟩ := rl.getD e1
  refine ⟨⟨⟨_, rfl⟩, x, xs, hq, ex⟩, fun v H2 ⟨T0, x', y', ev, n, eH, u1, u2⟩ => ?_⟩
  have f2 := u2 xs hq
  rw [ex] at f2; cases f2
  subst ev ez u1
  exact yield_pair s'.step.le n eH (.int _) rx
def iZp (f : AS → AR) : AS → IR := fun A => match f A with
  | .ok [v, w] A1 => match srcOf v A1 with
    | some (ds, lk, A2) => match srcOf w A2 with
      | some (es, lk2, A3) => .ok (zipD ds es) (lk ++ lk2) A3
      | none => .fail
    | none => .fail
  | .exc c fs A1 => .exc c fs A1
  | _ => .fail
def iEn (f : AS → AR) : AS → IR := fun A => match f A with
  | .ok [v] A1 => match srcOf v A1 with
    | some (ds, lk, A2) => .ok (enuD 0 ds) lk A2
    | none => .fail
  | .exc c fs A1 => .exc c fs A1
  | _ => .fail
theorem si_zip {e e2 : Expr} {f : AS → AR} {p tpos : Pos} {elts : List Expr} {kk : Nat} (hK : X.K = R.K) (hg : Gl X "zip") (hm : X.mg "zip" = none) (ha : PA X [e, e2] (tA T R W f))
    (hs : starEach [e, e2] X.env = (false, eval e X.env) :: starEach [e2] X.env := by rfl) (hpl : (backTo pos (starEach [e2] X.env)).any (·.1) = false := by rfl) :
    PI X (.Tuple elts kk tpos) (.Call (.Name "zip" p) [e, e2] [] pos) (tI T R W (iZp f)) := ⟨fun pins s σ H Rr I ⟨A, G, st, p⟩ => by
  refine Call_ (ld_blt I hg hm PyProof.Rows.boot_zip (PyProof.Rows.callWith_type1 (thn (ha.run pos pins s σ H (fun vs H1 => ∃ b c a d xs ys, vs = [.ref a, .ref d] ∧ SqX b X.K H1 a xs ∧ SqX c X.K H1 d ys ∧ Rr (ItZ X.K b c a d) H1) I ⟨A, G, st, ?_⟩) fun us s1 ⟨vs, H1, I1, r1, b, c, a, d, xs, ys, ev, hq, hq2, q⟩ => ?_) hs hpl))
  · unfold iZp at p
    cases q : f A with
    | fail => rw [q] at p; exact p
    | exc c fs A1 => rw [q] at p; exact p
    | ok vs A1 =>
      rw [q] at p
      intro xs H1 G1 g1 s1 k1 r1
      match vs, r1, p with
      | [v, w], .cons hv rv (.cons hw rw_ .nil), p =>
        dsimp only at p
        cases q2 : srcOf v A1 with
        | none => rw [q2] at p; exact p.elim
        | some y =>
          obtain ⟨ds, lk, A2⟩ := y
          rw [q2] at p
          dsimp only at p
          obtain ⟨b, a, e, s2, k2, hl, so⟩ := srcOf_ok s1 rv q2
          cases q3 : srcOf w A2 with
          | none => rw [q3] at p; exact p.elim
          | some y =>
            obtain ⟨es, lk2, A3⟩ := y
            rw [q3] at p
            obtain ⟨c, d, e', s3, k3, hl2, so2⟩ := srcOf_ok s2 (rw_.keep hw (Same.refl _)) q3
            have so' := so.mono (Same.refl _) (Keep.of k3)
            obtain ⟨xs, hq, _⟩ := so' R A3 σ H1 G1 rfl s3 (Same.refl _) (Keep.refl _ _)
            obtain ⟨ys, hq2, _⟩ := so2 R A3 σ H1 G1 rfl s3 (Same.refl _) (Keep.refl _ _)
            subst e e'
            refine ⟨b, c, a, d, xs, ys, rfl, by rw [hK]; exact hq, by rw [hK]; exact hq2, p _ H1 G1 g1 s3 ((k1.trans k2).trans k3) (fun i hi dd => ?_) (by rw [hK]; exact wkZ so' so2)⟩
            rcases List.mem_append.mp hi with h | h
            · exact unlk_none k1 hl i h dd
            · exact unlk_none (k1.trans k2) hl2 i h dd
      | [], _, p => exact p.elim
      | [_], _, p => exact p.elim
      | _ :: _ :: _ :: _, _, p => exact p.elim
  · subst ev
    cases r1 with
    | cons r rr =>
      cases rr with
      | cons r' rr =>
        cases rr
        cases r
        cases r'
        obtain ⟨its, rv, p1, _⟩ := I1.seqX hq
        obtain ⟨its2, rv2, p2, _⟩ := I1.seqX hq2
        have la := hasX_lt p1
        have lb := hasX_lt p2
        refine zip_begins2 (begX b a its.toArray) (begX c d its2.toArray) p1 p2 fun h' hz hTI hTO h1 h2 hsz hk => wpAny_pyIter_zip hz ?_
        have I2 : Inv X pins σ H1 { s1 with heap := h' } := I1.kept (t' := s1.toks) hk
        refine ⟨s1.heap.objs.size + 4, [s1.heap.objs.size + 4, s1.heap.objs.size + 2, s1.heap.objs.size + 3, s1.heap.objs.size, s1.heap.objs.size + 1], _, _, H1, rfl, I2, turn_Z la lb, ⟨hz, hTI, ⟨_, _, hTO⟩, iterX_new h1, iterX_new h2⟩, fun e he => ?_, q⟩
        have hle : s1.heap.objs.size ≤ e := by
          simp only [List.mem_cons, List.not_mem_nil, or_false] at he
          rcases he with z | z | z | z | z <;> rw [z] <;> first | exact Nat.le_add_right _ _ | exact Nat.le_refl _
        exact I1.fpOk hle (I1.hok.fresh hle)⟩
theorem meets_enumB1 {v : Value} {o : Obj} {H : Heap → Prop} (B : Begins v o H) :
    Meets (Builtin.«enumerate.__new__» ⟨[.type "enumerate", v], []⟩) (fun _ R s => H s.heap ∧
      R (.ok (.ret (.ref (s.heap.push o).objs.size))) { s with heap := (s.heap.push o).push { cls := .type "enumerate", data := .fields #[.none, .bool false, .ref s.heap.objs.size, rawInt 0, .none, .none] } }) :=
  .of_wp fun prog w A R s h => by
    obtain ⟨hp, g, d, tk, os⟩ := s
    obtain ⟨hb, h⟩ := h
    have hsub := sub_enumerate
    have qi : ∀ {A' : Around} {E Q : Value → Shared → Prop}, Q (.ref hp.objs.size) ⟨hp.push o, g, d, tk, os⟩ → wpAny (model prog w) A' (pyIter v) Q E ⟨hp, g, d, tk, os⟩ := fun q => B.iter prog w _ _ ⟨hp, g, d, tk, os⟩ _ hb q
    wp_walk using qi
    refine wpAny_stack_any fun st => wpAny_pure ?_
    split
    · rename_i cc _ _ _ _ _
      cases (cc == Value.type "enumerate") <;> (wp_walk using qi; exact ⟨_, rfl, h⟩)
    · wp_walk using qi
      exact ⟨_, rfl, h⟩
theorem si_enum {e : Expr} {f : AS → AR} {p tpos : Pos} {elts : List Expr} {kk : Nat} (hK : X.K = R.K) (hg : Gl X "enumerate") (hm : X.mg "enumerate" = none) (ha : PA X [e] (tA T R W f)) (hs : starEach [e] X.env = [(false, eval e X.env)] := by rfl) :
    PI X (.Tuple elts kk tpos) (.Call (.Name "enumerate" p) [e] [] pos) (tI T R W (iEn f)) := ⟨fun pins s σ H Rr I ⟨A, G, st, p⟩ => by
  refine Call_ (ld_blt I hg hm boot_enumerate (PyProof.Rows.callWith_type1 (thn (ha.run pos pins s σ H (fun vs H1 => ∃ b a xs, vs = [.ref a] ∧ SqX b X.K H1 a xs ∧ Rr (ItE X.K b a 0) H1) I ⟨A, G, st, ?_⟩) fun us s1 ⟨vs, H1, I1, r1, b, a, xs, ev, hq, q⟩ => ?_) hs rfl))
  · unfold iEn at p
    cases q : f A with
    | fail => rw [q] at p; exact p
    | exc c fs A1 => rw [q] at p; exact p
    | ok vs A1 =>
      rw [q] at p
      intro xs H1 G1 g1 s1 k1 r1
      match vs, r1, p with
      | [v], .cons hv rv .nil, p =>
        dsimp only at p
        cases q2 : srcOf v A1 with
        | none => rw [q2] at p; exact p.elim
        | some y =>
          obtain ⟨ds, lk, A2⟩ := y
          rw [q2] at p
          obtain ⟨b, a, e, s2, k2, hl, so⟩ := srcOf_ok s1 rv q2
          obtain ⟨xs, hq, _⟩ := so R A2 σ H1 G1 rfl s2 (Same.refl _) (Keep.refl _ _)
          subst e
          exact ⟨b, a, xs, rfl, by rw [hK]; exact hq, p _ H1 G1 g1 s2 (k1.trans k2) (unlk_none k1 hl) (by rw [hK]; exact wkE so)⟩
      | [], _, p => exact p.elim
      | _ :: _ :: _, _, p => exact p.elim
  · subst ev
    cases r1 with
    | cons r rr =>
      cases rr
      cases r
      obtain ⟨its, rv, p1, _⟩ := I1.seqX hq
      have la := hasX_lt p1
      refine callType_new F.called_enumerate (by decide) (F.typeCall_enumerate_1 _) (F.newCall_enumerate_1 _) (fun obj => F.args_object_init_2 obj _) F.entry_enumerate_new (meets_enumB1 (begX b a its.toArray)) ⟨p1, ?_⟩
      have hz : (s1.heap.push (itO b a)).objs.size = s1.heap.objs.size + 1 := Heap.size_push ..
      show _ ∧ _
      rw [hz]
      have he : IsEnum ((s1.heap.push (itO b a)).push { cls := .type "enumerate", data := .fields #[.none, .bool false, .ref s1.heap.objs.size, rawInt 0, .none, .none] }) (s1.heap.objs.size + 1) s1.heap.objs.size (0 + ((0 : Nat) : Int)) .none := by
        have := Heap.get?_push_size (s1.heap.push (itO b a)) (o := { cls := .type "enumerate", data := .fields #[.none, .bool false, .ref s1.heap.objs.size, rawInt 0, .none, .none] }) rfl
        rw [hz] at this; exact this
      refine ⟨⟨_, he, rfl⟩, wpAny_pyIter_enum he ?_⟩
      have I2 : Inv X pins σ H1 { s1 with heap := (s1.heap.push (itO b a)).push { cls := .type "enumerate", data := .fields #[.none, .bool false, .ref s1.heap.objs.size, rawInt 0, .none, .none] } } := I1.kept (t' := s1.toks) fun b o x => Heap.get?_push_of_some _ (Heap.get?_push_of_some _ x)
      refine ⟨s1.heap.objs.size + 1, [s1.heap.objs.size + 1, s1.heap.objs.size], _, _, H1, rfl, I2, turn_E la, ⟨⟨_, he⟩, iterX_new (Heap.get?_push_of_some _ (Heap.get?_push_size _ (begX b a its.toArray).free))⟩, fun e he => ?_, q⟩
      have hle : s1.heap.objs.size ≤ e := by
        simp only [List.mem_cons, List.not_mem_nil, or_false] at he
        rcases he with z | z <;> rw [z] <;> first | exact Nat.le_add_right _ _ | exact Nat.le_refl _
      exact I1.fpOk hle (I1.hok.fresh hle)⟩
end
end MR

namespace MR
open PySem PySem.Spec PyProof.Rows L2

/-! ### an exception in a comprehension's block -/
theorem frames_heap {base h h' : Heap} : ∀ {l : List Env}, h.FunFrames base l → (∀ L ∈ frs l, ∀ o, h.get? L = some o → h'.get? L = some o) → h'.FunFrames base l
  | [], _, _ => trivial
  | env :: l, x, k => by
    obtain ⟨hk, ⟨L, o, hf, hn, ho, hd⟩, hr⟩ := x
    refine ⟨hk, ⟨L, o, hf, hn, k L (List.mem_filterMap.mpr ⟨env, List.mem_cons_self, hf⟩) o ho, hd⟩, frames_heap hr fun b hb => ?_⟩
    obtain ⟨e, he, q⟩ := List.mem_filterMap.mp hb
    exact k b (List.mem_filterMap.mpr ⟨e, List.mem_cons_of_mem _ he, q⟩)
theorem traced_heap {h h' B B' : Heap} {a : Addr} {Z : Obj → Prop} {fl : Value} (t : HandSPX.TracedZ h B a Z fl) (k : ∀ b o, h.get? b = some o → (∃ vs, o.data = .fields vs) → h'.get? b = some o) (kb : ∀ b, B.get? b = none → B'.get? b = none) : HandSPX.TracedZ h' B' a Z fl := by
  obtain ⟨oe, vs, T, oT, ts, he, hz, hd, h1, hnT, hTe, hT, hdT, h3⟩ := t
  exact ⟨oe, vs, T, oT, ts, k _ _ he ⟨_, hd⟩, hz, hd, h1, kb _ hnT, hTe, k _ _ hT ⟨_, hdT⟩, hdT, h3⟩
/-- what is in the air of a block whose names lie at C: the state of the def around, σ its slots -/
def AirC (X : Cx) (W : WX) (σ : ST) (C : Addr) (u : Value) (s' : Shared) : Prop :=
  (∃ m, s'.heap.Ns C m) ∧ ∃ G : Heap, (∀ b, b ≠ C → G.get? b = s'.heap.get? b) ∧ G.get? C = none ∧ XE X (fun cls d σ0 H => σ0 = σ ∧ W cls d σ H) u { s' with heap := G }
theorem hide_one (h : Heap) (C : Addr) : ∃ G : Heap, (∀ b, b ≠ C → G.get? b = h.get? b) ∧ G.get? C = none := by
  obtain ⟨G, g1, g2⟩ := restrict h fun b => decide (b ≠ C)
  exact ⟨G, fun b hb => g1 b (decide_eq_true hb), g2 C (by simp)⟩
theorem hid_some {h G : Heap} {C b : Addr} {o : Obj} (g1 : ∀ b, b ≠ C → G.get? b = h.get? b) (g2 : G.get? C = none) (e : G.get? b = some o) : b ≠ C ∧ h.get? b = some o := by
  have hb : b ≠ C := fun z => by rw [z, g2] at e; cases e
  exact ⟨hb, (g1 b hb).symm.trans e⟩
theorem ns_dict {h : Heap} {C : Addr} {m : Str → Option Value} {o : Obj} (n : h.Ns C m) (e : h.get? C = some o) : ∀ vs, o.data ≠ .fields vs := fun vs q => by
  obtain ⟨o', es, ep, e', d, _⟩ := n
  rw [e] at e'; cases e'; rw [d] at q; cases q

section
variable {X : Cx} {pins : List (Addr × Obj)} {σ : ST} {H3 : Hp} {s3 : Shared} {W : WX}
theorem air_call {scope : Scope} {ce : Env} {fp : List Addr} {xe : Value → Shared → Prop} {C : Addr} (I3 : Inv X pins σ H3 s3) (cL : ce.locals = C) (hC : C = s3.heap.objs.size)
    (f3 : ∀ b ∈ fp, FpOk X pins H3 b) (hx : xe = AirC X W σ C) : ∀ σ', PassesAt (L2.CX X.prog X.w) ((X.blk s3 H3 scope ce fp).wish xe) σ' (WE (fun cls d _ H => W cls d σ H) σ') := by
  subst hx
  intro σ' pins' H s e s' I' c
  obtain ⟨a, B, H', cls, d, rfl, fl, hokB, ub, na, os, ag, hE⟩ := c
  have hHC : H C = none := by have := I'.free; rw [show ((X.blk s3 H3 scope ce fp).wish (AirC X W σ C)).env.locals = C from cL] at this; exact this
  obtain ⟨m, hn, _⟩ := I'.loc
  have hn : s.heap.Ns C m := by rw [show ((X.blk s3 H3 scope ce fp).wish (AirC X W σ C)).env.locals = C from cL] at hn; exact hn
  have nfr : ∀ b ∈ frs X.stack, b ≠ C := fun b hb z => by
    obtain ⟨_, o, ho, _⟩ := I3.stack.mem hb
    rw [z, hC] at ho
    exact absurd (Heap.lt_size ho) (Nat.lt_irrefl _)
  have old : ∀ b o, s3.heap.get? b = some o → b ≠ C := fun b o e z => by rw [z, hC] at e; exact absurd (Heap.lt_size e) (Nat.lt_irrefl _)
  obtain ⟨hs, a1, a2⟩ := hide_one s.heap C
  obtain ⟨hs', b1, b2⟩ := hide_one s'.heap C
  obtain ⟨hB, c1, c2⟩ := hide_one B C
  obtain ⟨oC, esC, epC, eC, dC, rC⟩ := hn
  have eB : B.get? C = some oC := ub.keep C oC eC hHC fun z => nfr C z rfl
  have eS : s'.heap.get? C = some oC := fl.1 C oC eB
  have I7 : Inv X pins σ H { s with heap := hs } := by
    refine I3.call' (ch := fp) (s' := { s with heap := hs }) I'.os ⟨fun b o e n hb hx => ?_, fun b o e n hb hx => ?_, I'.base.free, fun b o e hx => ?_, I'.base.tups, I'.base.frzs, I'.base.tbls⟩ (fun b u q => ?_) I'.bare fun b hb => ⟨(f3 b hb).2.2.2.1, (f3 b hb).2.1, (f3 b hb).2.2.2.2.1, (f3 b hb).2.2.2.2.2⟩
    · exact (a1 b (old b o e)).trans (I'.base.keep b o e n hb hx)
    · obtain ⟨sl, q⟩ := I'.base.slot b o e n hb hx
      exact ⟨sl, (a1 b (old b o e)).trans q⟩
    · obtain ⟨o', q⟩ := I'.base.there b o e hx
      exact ⟨o', (a1 b (old b o e)).trans q⟩
    · refine (I'.hok b u q).stay (fun c v hc r => ?_) (fun _ q => q) fun _ _ q => q
      refine (a1 c fun z => ?_).trans r
      rcases hc with z2 | z2
      · rw [← z2, z, hHC] at q; cases q
      · rw [z, hHC] at z2; cases z2
  have nC : ∀ b o, s'.heap.get? b = some o → (∃ vs, o.data = .fields vs) → b ≠ C := fun b o e ⟨vs, q⟩ z => by
    rw [z, eS] at e; cases e; rw [dC] at q; cases q
  obtain ⟨fl1, fl2, fl3, fl4⟩ := fl
  have kb : ∀ b, B.get? b = none → hB.get? b = none := fun b q => by
    by_cases z : b = C
    · rw [z]; exact c2
    · rw [c1 b z]; exact q
  have fly : HandSPX.FlyingZ hB X.stack a (Zc cls d) hs' := by
    refine ⟨fun b o e => ?_, kb a fl2, frames_heap (funFrames_none fl3 fun L hL => kb L (fl3.mem hL).1) fun L hL o e => (b1 L (nfr L hL)).trans e, traced_heap fl4 (fun b o e z => (b1 b (nC b o e z)).trans e) kb⟩
    obtain ⟨z, q⟩ := hid_some c1 c2 e
    exact (b1 b z).trans (fl1 b o q)
  have hH'C : H' C = none := ub.free C oC eC hHC
  refine ⟨⟨m, oC, esC, epC, eS, dC, rC⟩, hs', b1, b2, XE.of_call I7 (E := fun cls d H => W cls d σ H) (fun _ _ _ h => ⟨rfl, h⟩) ⟨a, hB, H', cls, d, rfl, fly, fun b u q => ?_, ⟨fun b o e n hb => ?_, fun b o e hb => ?_, fun b o e n => ?_, fun b o e hb => ?_, ub.tups, ub.frzs, ub.tbls⟩, na, os, ag, hE⟩⟩
  · refine (hokB b u q).stay (fun c v hc r => ?_) (fun _ q => q) fun _ _ q => q
    refine (c1 c fun z => ?_).trans r
    rcases hc with z2 | z2
    · rw [← z2, z, hH'C] at q; cases q
    · rw [z, hH'C] at z2; cases z2
  · obtain ⟨z, q⟩ := hid_some a1 a2 e
    exact (c1 b z).trans (ub.keep b o q n hb)
  · obtain ⟨z, q⟩ := hid_some a1 a2 e
    obtain ⟨sl, q2⟩ := ub.slot b o q hb
    exact ⟨sl, (b1 b z).trans q2⟩
  · exact ub.free b o (hid_some a1 a2 e).2 n
  · obtain ⟨z, q⟩ := hid_some a1 a2 e
    obtain ⟨o', q2⟩ := ub.there b o q hb
    exact ⟨o', (c1 b z).trans q2⟩
theorem air_end {ce : Env} {C : Addr} {u : Value} {s' : Shared} (tk : Takes X W) (hst : X.stack = X.env :: X.outer) (hf : X.env.frame = some X.env.locals) (cF : ce.frame = X.env.frame) (cL : ce.locals = C) (x : AirC X W σ C u s') :
    notedBy (model X.prog X.w) X.A ce (CompFails (model X.prog X.w) X.A X.xe ce) u s' := by
  obtain ⟨⟨m, hn⟩, G, g1, g2, a, B, sI, pins', σI, H', cls, d, rfl, I, nb, up, sky, na, os, ag, rfl, w⟩ := x
  have hfr : X.A.frames = some (X.env :: X.outer) := by rw [I.ok.frames, hst]
  have gs : ∀ b o, G.get? b = some o → s'.heap.get? b = some o := fun b o e => (hid_some g1 g2 e).2
  have bG : B.StaysIn G := by
    rcases sky with h | h | h
    · exact h.1
    · exact h.1
    · exact h.1
  have bC : B.get? C = none := by
    cases q : B.get? C with
    | none => rfl
    | some o => have := bG C o q; rw [g2] at this; cases this
  have fG : G.FunFrames B X.stack := by
    rcases sky with h | h | h
    · exact h.2.2.1
    · exact h.2.2.1
    · exact h.2.2.1
  have nfr : ∀ b ∈ frs X.stack, b ≠ C := fun b hb z => by
    obtain ⟨_, o, ho, _⟩ := fG.mem hb
    rw [z, g2] at ho; cases ho
  have fin : ∀ h1, HandSPX.HeldZ B X.stack a (Zc cls d) X.env.locals h1 → s'.heap.UpToSlots h1 → CompFails (model X.prog X.w) X.A X.xe ce (.ref a) { s' with heap := h1 } := fun h1 hh up1 => by
    have hn1 : h1.Ns C m := hn.upToSlots up1
    refine ⟨m, by rw [cL]; exact hn1, fun h2 m2 hn2 hs2 => ?_⟩
    rw [cL] at hs2
    obtain ⟨k1, k2, k3, k4⟩ := hh
    have nd : ∀ b o, h1.get? b = some o → (∃ vs, o.data = .fields vs) → b ≠ C := fun b o e ⟨vs, q⟩ z => by
      subst z; exact ns_dict hn1 e vs q
    have hh2 : HandSPX.HeldZ B X.stack a (Zc cls d) X.env.locals h2 := by
      refine ⟨fun b o e => (hs2.2 b fun z => by rw [z, bC] at e; cases e).trans (k1 b o e), k2, frames_heap k3 fun L hL o e => (hs2.2 L (nfr L hL)).trans e, traced_heap k4 (fun b o e z => (hs2.2 b (nd b o e z)).trans e) fun b q => q⟩
    obtain ⟨oe, vs, T, oT, ts, he, hz, hd, h1', _⟩ := id hh2.2.2.2
    unfold PySem.passOn
    refine wpAny_bind (wpAny_field he hd h1' ?_)
    rw [if_neg (show ¬ ((Value.ref T == Value.none) = true) from by simp)]
    rw [cF, hf]
    refine wpAny_bind (HandSPX.setFlight_onZ hh2 fun h3 hh3 up3 => wpAny_throw ?_)
    refine tk _ _ ⟨a, B, sI, pins', _, H', cls, d, rfl, I, nb, fun b o e nf => ?_, .inr (.inr hh3), na, os, ag, w⟩
    obtain ⟨sl, e1⟩ := up b o e nf
    obtain ⟨zC, e1'⟩ := hid_some g1 g2 e1
    obtain ⟨sl2, e2⟩ := up1 b _ e1' nf
    exact up3 b { o with slots := sl2 } ((hs2.2 b zC).trans e2) nf
  show wpAny _ _ (noteFrame (.ref a) ce) _ _ s'
  rw [noteFrame_env _ cF]
  rcases sky with ⟨h1, h2, h3, oe, vs, h4, h5, h6, h7⟩ | ⟨h1, h2, h3, h4⟩ | ⟨h1, h2, h3, h4⟩
  · have F3 : s'.heap.FunFrames B (X.env :: X.outer) := by rw [← hst]; exact frames_heap h3 fun L hL o e => gs _ _ e
    exact HandSPX.look_newZ Zc.steady hfr F3 hf (gs _ _ h4) (fun b o e => gs _ _ (h1 b o e)) h2 h6 h7 h5 fun h' hh up' => fin h' (by rw [hst]; exact hh) up'
  · have F3 : s'.heap.FunFrames B (X.env :: X.outer) := by rw [← hst]; exact frames_heap h3 fun L hL o e => gs _ _ e
    exact HandSPX.looks_onZ Zc.steady hfr hf ⟨fun b o e => gs _ _ (h1 b o e), h2, F3, traced_heap h4 (fun b o e _ => gs _ _ e) fun b q => q⟩ fun h' hh up' => fin h' (by rw [hst]; exact hh) up'
  · have T4 := traced_heap (h' := s'.heap) (B' := B) h4 (fun b o e _ => gs _ _ e) fun b q => q
    exact HandSPX.againZ hf T4 (fin s'.heap ⟨fun b o e => gs _ _ (h1 b o e), h2, frames_heap h3 fun L hL o e => gs _ _ e, T4⟩ (Heap.UpToSlots.refl _))
end
end MR

namespace MR
open PySem PySem.Spec PyProof.Rows L2

/-! ### list comprehensions -/
def unA : List Nat → AS → AS
  | [], A => A
  | v :: vs, A => sset (unA vs A) v .un
def backA (A1 : AS) : List Nat → AS → AS
  | [], A => A
  | v :: vs, A => sset (backA A1 vs A) v (sget A1 v)
def quietA (A : AS) : List Nat → Bool
  | [] => true
  | v :: vs => !(sget A v).isOwn && quietA A vs
theorem unA_len (A : AS) : ∀ vs, (unA vs A).length = A.length
  | [] => rfl
  | v :: vs => by rw [unA, sset_len, unA_len A vs]
theorem backA_len (A1 A : AS) : ∀ vs, (backA A1 vs A).length = A.length
  | [] => rfl
  | v :: vs => by rw [backA, sset_len, backA_len A1 A vs]
theorem unA_get (A : AS) (i : Nat) : ∀ vs, (i ∈ vs → sget (unA vs A) i = .un) ∧ (i ∉ vs → sget (unA vs A) i = sget A i)
  | [] => ⟨fun h => by simp at h, fun _ => rfl⟩
  | v :: vs => by
    obtain ⟨h1, h2⟩ := unA_get A i vs
    refine ⟨fun h => ?_, fun h => ?_⟩
    · by_cases c : v = i
      · subst c
        rcases sget_eq (unA vs A) v .un with z | ⟨z, _⟩ <;> exact z
      · rw [unA, sget_ne _ _ _ _ c]
        exact h1 ((List.mem_cons.mp h).resolve_left (Ne.symm c))
    · simp only [List.mem_cons, not_or] at h
      rw [unA, sget_ne _ _ _ _ (Ne.symm h.1)]
      exact h2 h.2
theorem backA_get (A1 A : AS) (hl : A1.length = A.length) (i : Nat) : ∀ vs, (i ∈ vs → sget (backA A1 vs A) i = sget A1 i) ∧ (i ∉ vs → sget (backA A1 vs A) i = sget A i)
  | [] => ⟨fun h => by simp at h, fun _ => rfl⟩
  | v :: vs => by
    obtain ⟨h1, h2⟩ := backA_get A1 A hl i vs
    refine ⟨fun h => ?_, fun h => ?_⟩
    · by_cases c : v = i
      · subst c
        rcases sget_eq (backA A1 vs A) v (sget A1 v) with z | ⟨z, l⟩
        · exact z
        · rw [backA, z, sget_big A1 v (by rw [hl]; rw [backA_len] at l; exact l)]
      · rw [backA, sget_ne _ _ _ _ c]
        exact h1 ((List.mem_cons.mp h).resolve_left (Ne.symm c))
    · simp only [List.mem_cons, not_or] at h
      rw [backA, sget_ne _ _ _ _ (Ne.symm h.1)]
      exact h2 h.2
theorem quietA_get {A : AS} : ∀ {vs : List Nat} {i : Nat}, quietA A vs = true → i ∈ vs → (sget A i).isOwn = false
  | [], i, _, h => by simp at h
  | v :: vs, i, q, h => by
    simp only [quietA, Bool.and_eq_true, Bool.not_eq_true'] at q
    rcases List.mem_cons.mp h with e | e
    · rw [e]; exact q.1
    · exact quietA_get q.2 e
inductive LR where
  | ok (ds : List D) (A : AS) | exc (c : Nat) (fs : List D) (A : AS) | fail
/-- the loop: the items that are still to come -/
def lcL (g : GD) (t : AS → TR) (f : AS → ER) (own : List Nat) : List D → AS → LR
  | [], A => .ok [] A
  | d :: r, A => match g d A with
    | none => .fail
    | some A1 => match t A1 with
      | .ok false A2 => lcL g t f own r (unA own A2)
      | .ok true A2 => match f A2 with
        | .ok v A3 => match settle v A3 with
          | none => .fail
          | some (e, A4) => match lcL g t f own r (unA own A4) with
            | .ok es A5 => .ok (e :: es) A5
            | x => x
        | .exc c fs A3 => .exc c fs A3
        | .fail => .fail
      | .exc c fs A2 => .exc c fs A2
      | .fail => .fail
def eLc (fi : AS → IR) (g : GD) (t : AS → TR) (f : AS → ER) (own : List Nat) : AS → ER := fun A => match fi A with
  | .ok items lk A1 => match quietA A1 own && decide (items.length ≤ 16777216) with
    | true => match lcL g t f own items (unA own A1) with
      | .ok ds A2 => .ok (.tmp (.lst ds)) (unlk lk (backA A1 own A2))
      | .exc c fs A2 => .exc c fs (unlk lk (backA A1 own A2))
      | .fail => .fail
    | false => .fail
  | .exc c fs A1 => .exc c fs A1
  | .fail => .fail
def tYs : AS → TR := fun A => .ok true A
section
variable {X : Cx} {T : Tb} {R : Rt} {W : WX} {pos : Pos}
theorem wipe_get {σ σ2 : ST} {vs : List Nat} {i : Nat} (h : wipe σ2 vs = wipe σ vs) (hi : i ∉ vs) : σ2[i]? = σ[i]? := by
  rw [← wipe_out (σ := σ2) hi, h, wipe_out hi]
theorem wipe_in {σ : ST} {i : Nat} : ∀ {vs : List Nat}, i ∈ vs → i < σ.length → (wipe σ vs)[i]? = some none
  | [], h, _ => by simp at h
  | v :: vs, h, hl => by
    unfold wipe
    by_cases c : v = i
    · subst c
      exact List.getElem?_set_self (by rw [wipe_length]; exact hl)
    · rw [List.getElem?_set_ne c]
      exact wipe_in ((List.mem_cons.mp h).resolve_left (Ne.symm c)) hl
theorem wipe_congr {σ τ : ST} {vs : List Nat} (hl : σ.length = τ.length) (h : ∀ j, j ∉ vs → σ[j]? = τ[j]?) : wipe σ vs = wipe τ vs := by
  refine List.ext_getElem? fun j => ?_
  by_cases c : j ∈ vs
  · by_cases l : j < σ.length
    · rw [wipe_in c l, wipe_in c (by omega)]
    · rw [List.getElem?_eq_none (by rw [wipe_length]; omega), List.getElem?_eq_none (by rw [wipe_length]; omega)]
  · rw [wipe_out c, wipe_out c]; exact h j c
theorem wipe_wipe (σ : ST) (vs : List Nat) : wipe (wipe σ vs) vs = wipe σ vs := wipe_congr (wipe_length _ _) fun j c => wipe_out c
theorem unlk1_own (i : Nat) (A : AS) (j : Nat) : (sget (unlk1 i A) j).isOwn = true → (sget A j).isOwn = true := fun h => by
  unfold unlk1 at h
  cases q : sget A i with
  | lk d =>
    rw [q] at h
    dsimp only at h
    by_cases c : i = j
    · subst c; rw [q]; rfl
    · rw [sget_ne _ _ _ _ c] at h; exact h
  | _ => rw [q] at h; exact h
theorem unlk_own : ∀ (l : List Nat) (A : AS) (j : Nat), (sget (unlk l A) j).isOwn = true → (sget A j).isOwn = true
  | [], _, _, h => h
  | i :: r, A, j, h => unlk1_own i A j (unlk_own r (unlk1 i A) j h)
/-- from the def's state to the block's -/
theorem blk_in {A : AS} {σ : ST} {H G : Hp} {own : List Nat} (s : StOk R A σ H G) (q : quietA A own = true) : StOk R (unA own A) (wipe σ own) H G := by
  have key : ∀ j, (sget (unA own A) j).isOwn = true → j ∉ own ∧ (sget A j).isOwn = true := fun j h => by
    by_cases c : j ∈ own
    · rw [(unA_get A j own).1 c] at h; exact nomatch h
    · rw [(unA_get A j own).2 c] at h; exact ⟨c, h⟩
  refine ⟨s.step, by rw [unA_len, wipe_length]; exact s.len, fun j => ?_, fun i j a o1 o2 e1 e2 => ?_⟩
  · by_cases c : j ∈ own
    · rw [(unA_get A j own).1 c]; trivial
    · rw [(unA_get A j own).2 c, wipe_out c]; exact s.at_ j
  · obtain ⟨c1, p1⟩ := key i o1
    obtain ⟨c2, p2⟩ := key j o2
    rw [wipe_out c1] at e1
    rw [wipe_out c2] at e2
    exact s.inj i j a p1 p2 e1 e2
/-- the block's names forgotten again -/
theorem blk_un {A : AS} {σ σ2 : ST} {H G : Hp} {own : List Nat} (s : StOk R A σ2 H G) (w : wipe σ2 own = wipe σ own) : StOk R (unA own A) (wipe σ own) H G := by
  have key : ∀ j, (sget (unA own A) j).isOwn = true → j ∉ own ∧ (sget A j).isOwn = true := fun j h => by
    by_cases c : j ∈ own
    · rw [(unA_get A j own).1 c] at h; exact nomatch h
    · rw [(unA_get A j own).2 c] at h; exact ⟨c, h⟩
  have wl : (wipe σ own).length = σ2.length := by rw [← w, wipe_length]
  refine ⟨s.step, by rw [unA_len, wl]; exact s.len, fun j => ?_, fun i j a o1 o2 e1 e2 => ?_⟩
  · by_cases c : j ∈ own
    · rw [(unA_get A j own).1 c]; trivial
    · rw [(unA_get A j own).2 c, ← w, wipe_out c]; exact s.at_ j
  · obtain ⟨c1, p1⟩ := key i o1
    obtain ⟨c2, p2⟩ := key j o2
    rw [← w, wipe_out c1] at e1
    rw [← w, wipe_out c2] at e2
    exact s.inj i j a p1 p2 e1 e2
/-- back in the def's slots -/
theorem blk_out {A1 A : AS} {σ σ2 : ST} {H1 G1 H G : Hp} {own : List Nat} (s1 : StOk R A1 σ H1 G1) (q : quietA A1 own = true) (s : StOk R A σ2 H G) (w : wipe σ2 own = wipe σ own) (g : Same G1 G) : StOk R (backA A1 own A) σ H G := by
  have hl2 : σ2.length = σ.length := by rw [← wipe_length σ2 own, w, wipe_length]
  have hl : A1.length = A.length := by rw [s1.len, s.len, hl2]
  have key : ∀ j, (sget (backA A1 own A) j).isOwn = true → j ∉ own ∧ (sget A j).isOwn = true := fun j h => by
    by_cases c : j ∈ own
    · rw [(backA_get A1 A hl j own).1 c, quietA_get q c] at h; exact nomatch h
    · rw [(backA_get A1 A hl j own).2 c] at h; exact ⟨c, h⟩
  refine ⟨s.step, by rw [backA_len, s.len, hl2], fun j => ?_, fun i j a o1 o2 e1 e2 => ?_⟩
  · by_cases c : j ∈ own
    · rw [(backA_get A1 A hl j own).1 c]
      have at_ := s1.at_ j
      have nq := quietA_get q c
      cases z : sget A1 j with
      | un => trivial
      | xn _ _ => rw [z] at at_; exact at_
      | fz d => rw [z] at at_; obtain ⟨v, e, r⟩ := at_; exact ⟨v, e, r.mono g⟩
      | ow d => rw [z] at nq; exact nomatch nq
      | lk d => rw [z] at nq; exact nomatch nq
    · rw [(backA_get A1 A hl j own).2 c, ← wipe_get w c]; exact s.at_ j
  · obtain ⟨c1, p1⟩ := key i o1
    obtain ⟨c2, p2⟩ := key j o2
    rw [← wipe_get w c1] at e1
    rw [← wipe_get w c2] at e2
    exact s.inj i j a p1 p2 e1 e2
/-- what a block's parts are shown for -/
structure BlkP (X : Cx) (T : Tb) (R : Rt) (scope : Scope) (tg elt : Expr) (ifs : List Expr) (wr : List Nat) (g : GD) (t : AS → TR) (f : AS → ER) : Prop where
  go : ∀ (s : Shared) (H : Hp) (C : Addr) (cl : List (Str × Addr)) (fp : List Addr) (xe : Value → Shared → Prop) (W : WX) (R' : Rt), R'.K = R.K →
    (∀ σ', PassesAt (L2.CX X.prog X.w) ((X.blk s H scope (compEnvC scope cl C X.env) fp).wish xe) σ' (WE W σ')) →
    PG ((X.blk s H scope (compEnvC scope cl C X.env) fp).wish xe) tg (tG R' wr g) ∧ PTs ((X.blk s H scope (compEnvC scope cl C X.env) fp).wish xe) ifs (tT T R' W t) ∧ PE ((X.blk s H scope (compEnvC scope cl C X.env) fp).wish xe) elt (tE T R' W f)
/-- an object is guarded: it stands in the ground for a while -/
def Rt.grd (R : Rt) (D : Addr) (o : HO) : Rt := { R with H0 := upd R.H0 D o }
theorem grd_in {A : AS} {σ : ST} {H G : Hp} {D : Addr} {o : HO} (s : StOk R A σ H G) (h0 : R.H0 D = none) (hD : H D = some o) (gD : G D = none) (nD : ∀ j, (sget A j).isOwn = true → σ[j]? ≠ some (some (.ref D))) : StOk (R.grd D o) A σ H G := by
  refine ⟨⟨fun b x e => ?_, s.step.sG, s.step.le, fun b hb => ?_⟩, s.len, fun j => ?_, s.inj⟩
  · by_cases c : b = D
    · subst c
      have e : upd R.H0 b o b = some x := e
      rw [upd_same] at e; cases e; exact hD
    · have e : upd R.H0 D o b = some x := e
      rw [upd_ne c] at e; exact s.step.sH _ _ e
  · rcases s.step.new b hb with z | z
    · exact .inl z
    · by_cases c : b = D
      · subst c; exact absurd gD hb
      · right; show upd R.H0 D o b = none; rw [upd_ne c]; exact z
  · have at_ := s.at_ j
    have ne : ∀ a, (sget A j).isOwn = true → σ[j]? = some (some (.ref a)) → R.H0 a = none → (R.grd D o).H0 a = none := fun a ow e z => by
      have c : a ≠ D := fun c => nD j ow (by rw [e, c])
      show upd R.H0 D o a = none
      rw [upd_ne c]; exact z
    cases q : sget A j with
    | un => trivial
    | xn _ _ => rw [q] at at_; exact at_
    | fz d => rw [q] at at_; exact at_
    | ow d =>
      rw [q] at at_ ne
      obtain ⟨a, e, g, z, w⟩ := at_
      exact ⟨a, e, g, ne a rfl e z, w⟩
    | lk d =>
      rw [q] at at_ ne
      obtain ⟨a, e, g, z, w⟩ := at_
      exact ⟨a, e, g, ne a rfl e z, w⟩
theorem grd_none {D : Addr} {o : HO} {a : Addr} (h : (R.grd D o).H0 a = none) : R.H0 a = none := by
  have h : upd R.H0 D o a = none := h
  by_cases c : a = D
  · subst c; rw [upd_same] at h; cases h
  · rw [upd_ne c] at h; exact h
theorem grd_out {A : AS} {σ : ST} {H G : Hp} {D : Addr} {o : HO} (s : StOk (R.grd D o) A σ H G) (h0 : R.H0 D = none) (gD : R.G0 D = none) :
    StOk R A σ H G ∧ H D = some o ∧ G D = none ∧ ∀ j, (sget A j).isOwn = true → σ[j]? ≠ some (some (.ref D)) := by
  have hD : H D = some o := s.step.sH D o (show upd R.H0 D o D = some o from upd_same)
  refine ⟨⟨⟨fun b x e => s.step.sH b x (show upd R.H0 D o b = some x by rw [upd_ne (ne_of_none e h0)]; exact e), s.step.sG, s.step.le, fun b hb => (s.step.new b hb).imp id fun z => grd_none z⟩, s.len, fun j => ?_, s.inj⟩, hD, ?_, fun j ow e => ?_⟩
  · have at_ := s.at_ j
    cases q : sget A j with
    | un => trivial
    | xn _ _ => rw [q] at at_; exact at_
    | fz d => rw [q] at at_; exact at_
    | ow d => rw [q] at at_; obtain ⟨a, e, g, z, w⟩ := at_; exact ⟨a, e, g, grd_none z, w⟩
    | lk d => rw [q] at at_; obtain ⟨a, e, g, z, w⟩ := at_; exact ⟨a, e, g, grd_none z, w⟩
  · cases q : G D with
    | none => rfl
    | some z =>
      rcases s.step.new D (by rw [q]; exact fun h => nomatch h) with z | z
      · exact absurd gD z
      · have z : upd R.H0 D o D = none := z
        rw [upd_same] at z; cases z
  · obtain ⟨_, z, _⟩ := s.own_none ow e
    have z : upd R.H0 D o D = none := z
    rw [upd_same] at z; cases z
def addL (acc : List D) : LR → LR
  | .ok ds A => .ok (acc ++ ds) A
  | x => x
theorem addL_nil (r : LR) : addL [] r = r := by cases r <;> rfl
theorem own_G0 {A : AS} {σ : ST} {H G : Hp} (s : StOk R A σ H G) {D : Addr} (h : G D = none) : R.G0 D = none := s.step.sG.free h
/-- a new item on the list that is made -/
theorem grow {A : AS} {σ : ST} {H G : Hp} {D : Addr} {o : HO} {acc : List V} (s : StOk R A σ H G) (hD : H D = some (.lst acc)) (gD : G D = none) (h0 : R.H0 D = none) (nD : ∀ j, (sget A j).isOwn = true → σ[j]? ≠ some (some (.ref D))) : StOk R A σ (upd H D o) G := by
  have sm : ∀ b x, b ≠ D → H b = some x → upd H D o b = some x := fun b x c e => by rw [upd_ne c]; exact e
  refine ⟨⟨fun b x e => sm b x (ne_of_none e h0) (s.step.sH _ _ e), s.step.sG, fun b x e => sm b x (fun c => by rw [c, gD] at e; cases e) (s.step.le _ _ e), s.step.new⟩, s.len, fun j => (s.at_ j).mono (Same.refl _) fun a ow e g _ => ⟨g, upd_ne fun c => nD j ow (by rw [e, c])⟩, s.inj⟩
theorem lcE_core {pins : List (Addr × Obj)} {s : Shared} {σ : ST} {H : Hp} {Q : VK} {elt tg iter : Expr} {ifs : List Expr} {scope : Scope} {own : List (Str × Nat)} {pos' : Pos} {fi : AS → IR} {wr : List Nat} {g : GD} {t : AS → TR} {f : AS → ER} {use : Option (Value → Sem Unit)} {Qf : Value → Shared → Prop}
    (XB : Addr → Value → Shared → Prop)
    (hA : ∀ {s3 : Shared} {H3 : Hp} {ce : Env} {fp : List Addr} {C : Addr}, Inv X pins σ H3 s3 → ce.locals = C → C = s3.heap.objs.size → (∀ b ∈ fp, FpOk X pins H3 b) → ∀ σ', PassesAt (L2.CX X.prog X.w) ((X.blk s3 H3 scope ce fp).wish (XB C)) σ' (WE (fun cls d _ H => W cls d σ H) σ'))
    (hO : ∀ {ce : Env} {C : Addr} {e : Value} {s' : Shared}, ce.frame = X.env.frame → ce.locals = C → XB C e s' → notedBy (model X.prog X.w) X.A ce (CompFails (model X.prog X.w) X.A X.xe ce) e s')
    (hc : X.calm = true) (hN : X.N.Nodup) (I : Inv X pins σ H s) (hi : PI X tg iter (tI T R W fi)) (ok : BlkOk X.N X.env.scope scope own)
    (hb : BlkP X T R scope tg elt ifs wr g t f) (hwr : ∀ j ∈ wr, j ∈ own.map (·.2)) (hs : ∀ x, foldedSetIterable iter X.env x = pure x)
    (h : tE T R W (eLc fi g t f (own.map (·.2))) σ H Q)
    (hRR : ∀ D C s' m H' (ce : Env), ce.locals = C → Inv X pins σ H' s' → Q (.ref D) H' → s'.heap.Ns C m → FpOk X pins H' C → compEnds (model X.prog X.w) X.A X.xe use Qf (.ref D) ce (.ok .next) s') :
    wpAny (model X.prog X.w) X.A (comprehension (.ListComp elt [⟨tg, iter, ifs, 0⟩] scope pos) scope X.env pos' (newList []) false (eval iter X.env) use) Qf X.xe s := by
  obtain ⟨A, G, st0, post⟩ := h
  have hfree : ∀ y ∈ scope.names, y.2 = .free → ∃ c, X.env.cells.lookup y.1 = some c := fun y hy e => by
    rcases ok.free y hy e with k | k
    · exact I.ok.has _ (.inl k)
    · exact I.ok.has _ (.inr k)
  refine comprehension_at (use := use) rfl hs (closure_ok hfree) ok.kind (fun y hy e => by rw [ok.uniq y hy, e])
    (thn (hi.run pins s σ H (fun J H1 => ∃ items lk A1 G1, fi A = .ok items lk A1 ∧ Same G G1 ∧ StOk R A1 σ H1 G1 ∧ KeepA A A1 ∧ (∀ i ∈ lk, ∀ d, sget A i ≠ .lk d) ∧ Wk R.K A1 σ G1 J items) I ⟨A, G, st0, ?_⟩) fun xv s1 hx => thn hx fun itv s2 h2 => ?_)
  · unfold eLc at post
    cases q : fi A with
    | fail => rw [q] at post; exact post
    | exc c fs A1 => rw [q] at post; exact post
    | ok items lk A1 => exact fun J H1 G1 g1 s1 k1 hl w => ⟨items, lk, A1, G1, rfl, g1, s1, k1, hl, w⟩
  obtain ⟨it, fp, tn, J, H2, e, I2, Tn, st2, f2, items, lk, A1, G1, efi, g1, s1', k1, hlk, wk⟩ := h2
  subst e
  unfold eLc at post
  rw [efi] at post
  dsimp only at post
  generalize hvs : own.map (·.2) = vs at post
  cases hq : quietA A1 vs && decide (items.length ≤ 16777216) with
  | false => rw [hq] at post; exact post.elim
  | true =>
  rw [hq] at post
  dsimp only at post
  simp only [Bool.and_eq_true, decide_eq_true_eq] at hq
  obtain ⟨hqu, hlen⟩ := hq
  refine wpAny_newObj_type (newEnv_comp ?_) (by show 0 ≤ sizeLine; decide)
  generalize hD : s2.heap.objs.size = D
  have hDn : H2 D = none := I2.hok.fresh (Nat.le_of_eq hD)
  generalize hs3 : ({ s2 with heap := s2.heap.push { cls := .type "list", data := .seq ([] : List Value).toArray } } : Shared) = s3
  have I3 : Inv X pins σ (upd H2 D (.lst [])) s3 := by
    rw [← hs3]
    refine I2.laid (t' := s2.toks) (fun b o e => Heap.get?_push_of_some _ e) (Nat.le_of_eq hD) ⟨Nat.zero_le _, [], 0, .nil, ?_⟩
    rw [← hD]
    exact Heap.get?_push_size _ rfl
  have h3 : s3.heap = s2.heap.push { cls := .type "list", data := .seq ([] : List Value).toArray } := by rw [← hs3]
  have f3 : ∀ b ∈ fp, FpOk X pins (upd H2 D (.lst [])) b ∧ b < s3.heap.objs.size := fun b hb => by
    obtain ⟨o, e, _⟩ := Tn.obj _ _ st2 b hb
    have hlt := Heap.lt_size e
    refine ⟨⟨?_, (f2 b hb).2⟩, by rw [h3, Heap.size_push]; exact Nat.lt_succ_of_lt hlt⟩
    rw [upd_ne (by rw [← hD]; exact Nat.ne_of_lt hlt)]
    exact (f2 b hb).1
  have st3 : tn 0 s3.heap := Tn.keep _ _ _ st2 fun b _ o e => by rw [h3]; exact Heap.get?_push_of_some _ e
  have I4 := block_start I3 ok hN f3
  rw [hvs] at I4
  -- the abstract state in the block
  have gD : G1 D = none := s1'.step.le.free hDn
  have h0D : R.H0 D = none := s1'.step.sH.free hDn
  have g0D : R.G0 D = none := s1'.step.sG.free gD
  have sA1 : StOk R A1 σ (upd H2 D (.lst [])) G1 := s1'.next (Step.tmp s1'.step.le hDn)
  have sB : StOk R (unA vs A1) (wipe σ vs) (upd H2 D (.lst [])) G1 := blk_in sA1 hqu
  have nB : ∀ j, (sget (unA vs A1) j).isOwn = true → (wipe σ vs)[j]? ≠ some (some (.ref D)) := fun j ow e => by
    by_cases c : j ∈ vs
    · rw [(unA_get A1 j vs).1 c] at ow; exact nomatch ow
    · rw [(unA_get A1 j vs).2 c] at ow
      rw [wipe_out c] at e
      obtain ⟨_, _, x, hx⟩ := s1'.own_none ow e
      rw [hDn] at hx; cases hx
  generalize hC : s3.heap.objs.size = C at I4
  generalize hcl : cellsFrom (C + 1) scope.names (cloFrom X.env.cells scope.names []) = cl at I4
  show codeAny _ _ (.compStart (.ListComp elt [⟨tg, iter, ifs, 0⟩] scope pos) 0 (.ref it) (.ref D) (compEnvC scope cl C X.env)) (compEnds (model X.prog X.w) X.A X.xe use Qf (.ref D) (compEnvC scope cl C X.env)) _
  generalize hH3 : upd H2 D (.lst []) = H3 at I3 I4 f3 sA1 sB
  generalize hce : compEnvC scope cl C X.env = ce at I4 ⊢
  have cL : ce.locals = C := by subst hce; rfl
  have cF : ce.frame = X.env.frame := by subst hce; rfl
  -- the block's contexts
  have air := hA (ce := ce) (fp := fp) I3 cL hC.symm (fun b hb => (f3 b hb).1)
  have bp : ∀ R', R'.K = R.K → PG ((X.blk s3 H3 scope ce fp).wish (XB C)) tg (tG R' wr g) ∧ PTs ((X.blk s3 H3 scope ce fp).wish (XB C)) ifs (tT T R' (fun cls d _ H => W cls d σ H) t) ∧ PE ((X.blk s3 H3 scope ce fp).wish (XB C)) elt (tE T R' (fun cls d _ H => W cls d σ H) f) := fun R' hK => by
    have z := hb.go s3 H3 C cl fp (XB C) (fun cls d _ H => W cls d σ H) R' hK
    rw [hce] at z
    exact z air
  generalize hs4 : ({ s3 with heap := pushCells (s3.heap.push { cls := .type "dict", data := .dict #[] }) scope.names } : Shared) = s4 at I4 ⊢
  have st4 : tn 0 s4.heap := Tn.keep _ _ _ st3 fun b _ o e => by rw [← hs4]; exact pushCells_keeps _ _ _ _ (Heap.get?_push_of_some _ e)
  have I4 : Inv ((X.blk s3 H3 scope ce fp).wish (XB C)) [] (wipe σ vs) H3 s4 := I4.wish _
  have stat : ∀ {σ' : ST} {H' : Hp} {s' : Shared}, Inv ((X.blk s3 H3 scope ce fp).wish (XB C)) [] σ' H' s' → (∀ b ∈ fp, H' b = none) → ∀ b ∈ fp, FpOk ((X.blk s3 H3 scope ce fp).wish (XB C)) [] H' b := fun {σ' H' s'} I' hn b hb =>
    ⟨hn b hb, (I'.ok.exf b hb).1, I'.ok.exfs b hb, .inl hb, fun x c e => (I'.ok.exf b hb).2 x c e, fun p hp => absurd (show p ∈ ([] : List (Addr × Obj)) ++ [] from hp) (by simp)⟩
  have nfp : ∀ b ∈ fp, H3 b = none := fun b hb => (f3 b hb).1.1
  have out : ∀ {e : Value} {s' : Shared}, XB C e s' → notedBy (model X.prog X.w) X.A ce (fun e s' => compEnds (model X.prog X.w) X.A X.xe use Qf (.ref D) ce (.error e) s') e s' := fun {e s'} x => by
    have z := hO cF cL x
    cases use <;> exact z
  have loop : codeAny (model X.prog X.w) X.A (.compLoop (.ListComp elt [⟨tg, iter, ifs, 0⟩] scope pos) 0 (.ref it) (.ref D) ce) (compEnds (model X.prog X.w) X.A X.xe use Qf (.ref D) ce) s4 := by
    refine compLoop_any (fun n s' => ∃ i A' H' G' acc accV, i + n = items.length ∧ Inv ((X.blk s3 H3 scope ce fp).wish (XB C)) [] (wipe σ vs) H' s' ∧ tn i s'.heap ∧ (∀ b ∈ fp, H' b = none) ∧ Same G1 G' ∧ StOk R A' (wipe σ vs) H' G' ∧ Keep (unA vs A1) (wipe σ vs) A' (wipe σ vs) ∧
      H' D = some (.lst accV) ∧ G' D = none ∧ (∀ j, (sget A' j).isOwn = true → (wipe σ vs)[j]? ≠ some (some (.ref D))) ∧ RpL R.K G' acc accV ∧ acc.length ≤ i ∧ addL acc (lcL g t f vs (items.drop i) A') = lcL g t f vs items (unA vs A1)) ?_ items.length
      ⟨0, unA vs A1, H3, G1, [], [], by omega, I4, st4, nfp, Same.refl _, sB, Keep.refl _ _, by rw [← hH3]; exact upd_same, gD, nB, .nil, Nat.le_refl _, by rw [addL_nil]; simp⟩
    rintro n s5 ⟨i, A', H5, G', acc, accV, hin, I5, st5, n5, g', sA', kA', hD5, gD5, nD5, rl, hal, eqL⟩
    -- Wk asks the def's slots: the walked slots lie outside the block's own
    have hlv : σ.length = A1.length := s1'.len.symm
    have sOut : StOk R (backA A1 vs A') σ H5 G' := blk_out sA1 hqu sA' (by rw [wipe_wipe]) g'
    have kOut : Keep A1 σ (backA A1 vs A') σ := fun j d e => by
      have c : j ∉ vs := fun c => by have := quietA_get hqu c; rw [e] at this; exact nomatch this
      have hl : A1.length = A'.length := by rw [s1'.len, sA'.len, wipe_length]
      refine ⟨?_, rfl⟩
      rw [(backA_get A1 A' hl j vs).2 c]
      exact (kA' j d (by rw [(unA_get A1 j vs).2 c]; exact e)).1
    obtain ⟨w1, w2⟩ := wk R _ _ _ _ rfl sOut g' kOut
    have ownOut : ∀ j, (sget (backA A1 vs A') j).isOwn = true → σ[j]? ≠ some (some (.ref D)) := fun j ow e => by
      have hl : A1.length = A'.length := by rw [s1'.len, sA'.len, wipe_length]
      by_cases c : j ∈ vs
      · rw [(backA_get A1 A' hl j vs).1 c, quietA_get hqu c] at ow; exact nomatch ow
      · rw [(backA_get A1 A' hl j vs).2 c] at ow
        exact nD5 j ow (by rw [wipe_out c]; exact e)
    by_cases hlt : i < items.length
    · obtain ⟨go, yl⟩ := w1 i items[i] (by simp [hlt])
      have hd : items.drop i = items[i] :: items.drop (i + 1) := by rw [List.drop_eq_getElem_cons hlt]
      rw [hd] at eqL
      dsimp only [lcL] at eqL
      have ti := Tn.item ((X.blk s3 H3 scope ce fp).wish (XB C)) rfl rfl rfl hc i [] s5 _ H5 (XB C) I5 (stat I5 n5) st5 go
      refine wpAny_mono ti (fun r s6 ⟨u, hr, h6⟩ => ?_) fun e s' x => out x
      subst hr
      refine wpAny_mono h6 (fun _ s7 ⟨x, H7, I7, r7, y7, st7, n7⟩ => ?_) fun e s' x => out x
      obtain ⟨G7, step7, rp7⟩ := yl x H7 y7
      have hD7 : H7 D = some (.lst accV) := step7.sH _ _ hD5
      have gD7 : G7 D = none := (step7.free gD5 ⟨_, hD5⟩).1
      have sG7 := grd_in (sA'.next step7) h0D hD7 gD7 nD5
      have rl7 := rl.mono step7.sG
      obtain ⟨pg, pt, pe⟩ := bp (R.grd D (.lst accV)) rfl
      have I7' := I7.pinned (stat I7 n7) (Tn.obj _ _ st7)
      cases hg : g items[i] A' with
      | none => rw [hg] at eqL; rw [← eqL] at post; exact post.elim
      | some A8 =>
        rw [hg] at eqL
        dsimp only at eqL
        refine wpAny_mono (pg.run _ s7 _ H7 x u (fun σ8 H8 => ∃ G8, Same G7 G8 ∧ StOk (R.grd D (.lst accV)) A8 σ8 H8 G8 ∧ Keep A' (wipe σ vs) A8 σ8 ∧ Off wr (wipe σ vs) σ8) I7' r7 ⟨A', G7, items[i], A8, sG7, rp7, hg, fun σ8 H8 G8 g8 s8 k8 o8 => ⟨G8, g8, s8, k8, o8⟩⟩) (fun _ s8 ⟨σ8, H8, I8, G8, g8, st8, k8, o8⟩ => ?_) fun e s' x => out x
        have hl8 : σ8.length = σ.length := by
          have e1 := I8.len
          have e2 := I2.len
          exact e1.trans e2.symm
        have hw8 : wipe σ8 vs = wipe σ vs := by
          rw [← wipe_wipe σ vs]
          exact wipe_congr (by rw [wipe_length]; exact hl8) fun j c => o8.2 j fun z => c (by rw [← hvs]; exact hwr j z)
        -- an error on the way
        have bad : ∀ {c : Nat} {fs : List MR.D} {A9 : AS} {G8' : Hp}, lcL g t f vs items (unA vs A1) = .exc c fs A9 → Same G1 G8' → ∀ cls dx H' G', Same G8' G' → StOk (R.grd D (.lst accV)) A9 σ8 H' G' → XR T R.K G' H' c fs cls dx → W cls dx σ H' := fun {c fs A9 G8'} er gg cls dx H' G' g9 s9 xr => by
          rw [er] at post
          exact post cls dx H' G' (g1.trans (gg.trans g9)) (unlk_ok lk (blk_out sA1 hqu (grd_out s9 h0D g0D).1 hw8 (gg.trans g9))) xr
        -- the turn's end
        have fini : ∀ {s' : Shared} {H' : Hp} {A9 : AS} {G9 : Hp} {acc9 : List MR.D} {accV9 : List V}, Inv ((X.blk s3 H3 scope ce fp).wish (XB C)) ([] ++ pinsAt fp s7.heap) σ8 H' s' → Same G1 G9 → StOk R A9 σ8 H' G9 → Keep A8 σ8 A9 σ8 → H' D = some (.lst accV9) → G9 D = none → (∀ j, (sget A9 j).isOwn = true → σ8[j]? ≠ some (some (.ref D))) →
            RpL R.K G9 acc9 accV9 → acc9.length ≤ i + 1 → addL acc9 (lcL g t f vs (items.drop (i + 1)) (unA vs A9)) = lcL g t f vs items (unA vs A1) →
            ∃ m, m < n ∧ ∃ i A' H' G' acc accV, i + m = items.length ∧ Inv ((X.blk s3 H3 scope ce fp).wish (XB C)) [] (wipe σ vs) H' s' ∧ tn i s'.heap ∧ (∀ b ∈ fp, H' b = none) ∧ Same G1 G' ∧ StOk R A' (wipe σ vs) H' G' ∧ Keep (unA vs A1) (wipe σ vs) A' (wipe σ vs) ∧
              H' D = some (.lst accV) ∧ G' D = none ∧ (∀ j, (sget A' j).isOwn = true → (wipe σ vs)[j]? ≠ some (some (.ref D))) ∧ RpL R.K G' acc accV ∧ acc.length ≤ i ∧ addL acc (lcL g t f vs (items.drop i) A') = lcL g t f vs items (unA vs A1) := fun {s' H' A9 G9 acc9 accV9} I' g9 s9 k9 hD9 gD9 nD9 rl9 hl9 eq9 => by
          have pin' : ∀ b ∈ fp, ∀ o, s7.heap.get? b = some o → s'.heap.get? b = some o ∧ H' b = none := fun b hb o e =>
            let z := I'.pin (b, o) (List.mem_append_right _ (List.mem_append_right _ (mem_pinsAt hb e)))
            ⟨z.1, z.2.1⟩
          refine ⟨n - 1, by omega, i + 1, unA vs A9, H', G9, acc9, accV9, by omega, (I'.unpinned (pins := [])).weak (by rw [wipe_length]; exact hl8.symm) (fun j v e => ?_), Tn.keep _ _ _ st7 fun b hb o e => (pin' b hb o e).1, fun b hb => ?_, g9, blk_un s9 hw8, fun j d e => ⟨?_, rfl⟩, hD9, gD9, fun j ow e => ?_, rl9, hl9, eq9⟩
          · rw [← hw8] at e
            exact (wipe_some e).1
          · obtain ⟨o, e, _⟩ := Tn.obj _ _ st7 b hb
            exact (pin' b hb o e).2
          · have c : j ∉ vs := fun c => by rw [(unA_get A1 j vs).1 c] at e; cases e
            rw [(unA_get A9 j vs).2 c]
            exact (k9 j d (k8 j d (kA' j d e).1).1).1
          · by_cases c : j ∈ vs
            · rw [(unA_get A9 j vs).1 c] at ow; exact nomatch ow
            · rw [(unA_get A9 j vs).2 c] at ow
              rw [← hw8, wipe_out c] at e
              exact nD9 j ow e
        cases ht : t A8 with
        | fail => rw [ht] at eqL; rw [← eqL] at post; exact post.elim
        | exc c fs A9 =>
          rw [ht] at eqL
          refine wpAny_mono (pt.run _ s8 σ8 H8 (fun _ _ => False) I8 ⟨A8, G8, st8, by rw [ht]; exact bad (G8' := G8) eqL.symm ((g'.trans step7.sG).trans g8)⟩) (fun b s9 ⟨H9, I9, q9⟩ => q9.elim) fun e s' x => out x
        | ok b A9 =>
          rw [ht] at eqL
          refine wpAny_mono (pt.run _ s8 σ8 H8 (fun b' H9 => b' = b ∧ ∃ G9, Same G8 G9 ∧ StOk (R.grd D (.lst accV)) A9 σ8 H9 G9 ∧ KeepA A8 A9) I8 ⟨A8, G8, st8, by rw [ht]; exact fun H9 G9 g9 s9 k9 => ⟨rfl, G9, g9, s9, k9⟩⟩) (fun b' s9 ⟨H9, I9, eb, G9, g9, st9, k9⟩ => ?_) fun e s' x => out x
          subst eb
          have gg9 : Same G1 G9 := ((g'.trans step7.sG).trans g8).trans g9
          cases b' with
          | false =>
            simp only [Bool.false_eq_true, if_false]
            dsimp only at eqL
            obtain ⟨so, hDo, gDo, nDo⟩ := grd_out st9 h0D g0D
            exact fini I9 gg9 so (.of k9) hDo gDo nDo (rl7.mono (g8.trans g9)) (by omega) eqL
          | true =>
            simp only [if_true]
            dsimp only at eqL
            cases hf : f A9 with
            | fail => rw [hf] at eqL; rw [← eqL] at post; exact post.elim
            | exc c fs A10 =>
              rw [hf] at eqL
              refine wpAny_mono (pe.run _ s9 σ8 H9 (fun _ _ => False) I9 ⟨A9, G9, st9, by rw [hf]; exact bad (G8' := G9) eqL.symm gg9⟩) (fun b s9 ⟨_, H9, I9, _, q9⟩ => q9.elim) fun e s' x => out x
            | ok v A10 =>
              rw [hf] at eqL
              dsimp only at eqL
              cases hse : settle v A10 with
              | none => rw [hse] at eqL; rw [← eqL] at post; exact post.elim
              | some y =>
                obtain ⟨e1, A11⟩ := y
                rw [hse] at eqL
                dsimp only at eqL
                refine wpAny_mono (pe.run _ s9 σ8 H9 (fun y H10 => ∃ G11, Same G9 G11 ∧ StOk (R.grd D (.lst accV)) A11 σ8 H10 G11 ∧ KeepA A9 A11 ∧ Rp R.K G11 e1 y) I9 ⟨A9, G9, st9, by
                  rw [hf]
                  intro y H10 G10 g10 s10 k10 r10
                  obtain ⟨G11, g11, s11, r11, k11⟩ := settle_ok s10 r10 hse
                  exact ⟨G11, g10.trans g11, s11, k10.trans k11, r11⟩⟩) (fun z s10 ⟨yv, H10, I10, r10, G11, g11, s11, k11, rp11⟩ => ?_) fun e s' x => out x
                obtain ⟨so, hDo, gDo, nDo⟩ := grd_out s11 h0D g0D
                have lacc : acc.length = accV.length := rl.len
                have hz : accV.length < sizeLine := by
                  rw [sizeLine_eq]
                  omega
                refine app_ok (X := (X.blk s3 H3 scope ce fp).wish (XB C)) I10 hDo hz r10 fun s11' I11 => ?_
                exact fini I11 (gg9.trans g11) (grow so hDo gDo h0D nDo) ((Keep.of k9).trans (.of k11)) upd_same gDo nDo ((rl7.mono ((g8.trans g9).trans g11)).app (.cons rp11 .nil)) (by simp; omega) (by
                  rw [← eqL]
                  cases lcL g t f vs (items.drop (i + 1)) (unA vs A11) with
                  | ok es A5 => exact congrArg (fun z => LR.ok z A5) (List.append_assoc acc [e1] es)
                  | _ => rfl)
    · have e : i = items.length := by omega
      subst e
      rw [List.drop_length] at eqL
      have eqL' : lcL g t f vs items (unA vs A1) = .ok acc A' := by rw [← eqL]; simp [lcL, addL]
      rw [eqL'] at post
      have td := Tn.done ((X.blk s3 H3 scope ce fp).wish (XB C)) rfl rfl rfl hc items.length [] s5 _ H5 (XB C) I5 (stat I5 n5) st5 w2
      refine wpAny_mono td (fun r s6 ⟨hr, I6⟩ => ?_) fun e s' x => out x
      subst hr
      have I7 : Inv X pins σ H5 s6 := I3.call' (ch := fp) I6.os I6.base I6.hok I6.bare fun b hb => ⟨(f3 b hb).1.2.2.2.1, (f3 b hb).1.2.1, (f3 b hb).1.2.2.2.2.1, (f3 b hb).1.2.2.2.2.2⟩
      have nC : H5 C = none := by
        have z : H5 ce.locals = none := I6.free
        rw [cL] at z
        exact z
      obtain ⟨m, hn, _⟩ := I6.loc
      have hn : s6.heap.Ns ce.locals m := hn
      rw [cL] at hn
      refine hRR D C s6 m H5 ce cL I7 (post (.ref D) H5 G' (g1.trans g') (unlk_ok lk sOut) (fun j d ej => (unlk_keep lk ((Keep.of k1).trans kOut) hlk j d ej).1) ⟨D, rfl, gD5, h0D, ⟨accV, hD5, rl⟩, fun j ow => ownOut j (unlk_own lk _ j ow)⟩) hn (I3.fpOk (Nat.le_of_eq hC) nC)
  exact codeAny_compStart_list loop (Tn.self X.A 0 _ _ _ st4 loop)
/-- as a value -/
theorem se_lcX {elt tg iter : Expr} {ifs : List Expr} {scope : Scope} {own : List (Str × Nat)} {fi : AS → IR} {wr : List Nat} {g : GD} {t : AS → TR} {f : AS → ER} {W' : WX}
    (XB : ST → Addr → Value → Shared → Prop)
    (hA : ∀ {pins : List (Addr × Obj)} {σ : ST} {s3 : Shared} {H3 : Hp} {ce : Env} {fp : List Addr} {C : Addr}, Inv X pins σ H3 s3 → ce.locals = C → C = s3.heap.objs.size → (∀ b ∈ fp, FpOk X pins H3 b) → ∀ σ', PassesAt (L2.CX X.prog X.w) ((X.blk s3 H3 scope ce fp).wish (XB σ C)) σ' (WE (fun cls d _ H => W cls d σ H) σ'))
    (hO : ∀ {σ : ST} {ce : Env} {C : Addr} {e : Value} {s' : Shared}, ce.frame = X.env.frame → ce.locals = C → XB σ C e s' → notedBy (model X.prog X.w) X.A ce (CompFails (model X.prog X.w) X.A X.xe ce) e s')
    (hc : X.calm = true) (hN : X.N.Nodup) (hi : PI X tg iter (tI T R W fi)) (ok : BlkOk X.N X.env.scope scope own)
    (hb : BlkP X T R scope tg elt ifs wr g t f) (hwr : ∀ j ∈ wr, j ∈ own.map (·.2)) (hs : ∀ x, foldedSetIterable iter X.env x = pure x) :
    PE X (.ListComp elt [⟨tg, iter, ifs, 0⟩] scope pos) (tE T R W (eLc fi g t f (own.map (·.2)))) := ⟨fun pins s σ H Q I h => by
  rw [eval_ListComp]
  refine lcE_core (XB σ) (fun {s3 H3 ce fp C} => hA) (fun {ce C e s'} => hO) hc hN I hi ok hb hwr hs h fun D C s' m H' ce hce I' q hn ff => ?_
  obtain ⟨f0, f1, f2, f3, f4, f5⟩ := ff
  subst hce
  exact ⟨m, hn, fun h' sb => ⟨.ref D, H', I'.turned (t' := s'.toks) (fun b o hb e => (sb.2 b hb).trans e) f0 f1 f3 f4 f5, rfl, q⟩⟩⟩
/-- name = [..] on one line, the name a local -/
theorem s_setLcX {i : Nat} {y : Str} {py spos : Pos} {elt tg iter : Expr} {ifs : List Expr} {scope : Scope} {own : List (Str × Nat)} {fi : AS → IR} {wr : List Nat} {g : GD} {t : AS → TR} {f : AS → ER}
    (XB : ST → Addr → Value → Shared → Prop)
    (hA : ∀ {pins : List (Addr × Obj)} {σ : ST} {s3 : Shared} {H3 : Hp} {ce : Env} {fp : List Addr} {C : Addr}, Inv X pins σ H3 s3 → ce.locals = C → C = s3.heap.objs.size → (∀ b ∈ fp, FpOk X pins H3 b) → ∀ σ', PassesAt (L2.CX X.prog X.w) ((X.blk s3 H3 scope ce fp).wish (XB σ C)) σ' (WE (fun cls d _ H => W cls d σ H) σ'))
    (hO : ∀ {σ : ST} {ce : Env} {C : Addr} {e : Value} {s' : Shared}, ce.frame = X.env.frame → ce.locals = C → XB σ C e s' → notedBy (model X.prog X.w) X.A ce (CompFails (model X.prog X.w) X.A X.xe ce) e s')
    (hc : X.calm = true) (hN : X.N.Nodup) (hy : X.N[i]? = some y) (hyl : X.env.scope.names.lookup y = some .local)
    (hsw : swapsWith (.ListComp elt [⟨tg, iter, ifs, 0⟩] scope pos) (some (.Name y py)) spos.line X.env = pure true) (hi : PI X tg iter (tI T R W fi)) (ok : BlkOk X.N X.env.scope scope own)
    (hb : BlkP X T R scope tg elt ifs wr g t f) (hwr : ∀ j ∈ wr, j ∈ own.map (·.2)) (hs : ∀ x, foldedSetIterable iter X.env x = pure x) :
    PS X (.Assign [.Name y py] (.ListComp elt [⟨tg, iter, ifs, 0⟩] scope pos) spos) (tS T R W (sAsg i (eLc fi g t f (own.map (·.2))))) := ⟨fun pins s σ H D I h => by
  have h := asg_imp h
  rw [exec_Assign_Name_used _ _ _ _ hsw]
  refine wpAny_bind (wpAny_standAt (wpAny_bind ?_))
  show wpAny _ X.A (do let _ ← comprehension (.ListComp elt [⟨tg, iter, ifs, 0⟩] scope pos) scope X.env (firstIterPos [⟨tg, iter, ifs, 0⟩] pos) (newList []) false (eval iter X.env) (some (assign (.Name y py) X.env))) _ _ s
  have h : tE T R W (eLc fi g t f (own.map (·.2))) σ H (fun x H1 => gName i x σ H1 D.nx) := h
  refine wpAny_bind (thn (lcE_core (Qf := fun _ s' => SP X pins D .next s') (XB σ) (fun {s3 H3 ce fp C} => hA) (fun {ce C e s'} => hO) hc hN I hi ok hb hwr hs h fun L C s' m H' ce hce I' q hn ff => ?_) fun _ s' hq => wpAny_pure (wpAny_pure hq))
  subst hce
  show wpAny _ _ (assign (.Name y py) X.env (.ref L)) _ _ _
  refine wpAny_assign_Name (store_ok2 (v := V.ref L) I' hN hy (.inl hyl) rfl (fun s2 I2 ⟨a, sb, ha⟩ => ?_) (.inr hyl))
  obtain ⟨f0, f1, f2, f3, f4, f5⟩ := ff
  have haC : ce.locals ≠ a := by
    rcases ha with z | z
    · rw [z]; exact f1
    · exact fun e => f4 y a z e.symm
  exact ⟨m, hn.sameBut sb haC, fun h3 sb3 => ⟨_, H', I2.turned (t' := s2.toks) (fun b o hb e => (sb3.2 b hb).trans e) f0 f1 f3 f4 f5, q⟩⟩⟩
/-- in a def's own frame: errors may leave -/
theorem se_lc {elt tg iter : Expr} {ifs : List Expr} {scope : Scope} {own : List (Str × Nat)} {fi : AS → IR} {wr : List Nat} {g : GD} {t : AS → TR} {f : AS → ER}
    (tk : Takes X W) (hst : X.stack = X.env :: X.outer) (hfr : X.env.frame = some X.env.locals) (hc : X.calm = true) (hN : X.N.Nodup) (hi : PI X tg iter (tI T R W fi)) (ok : BlkOk X.N X.env.scope scope own)
    (hb : BlkP X T R scope tg elt ifs wr g t f) (hwr : ∀ j ∈ wr, j ∈ own.map (·.2)) (hs : ∀ x, foldedSetIterable iter X.env x = pure x := by intro _; rfl) :
    PE X (.ListComp elt [⟨tg, iter, ifs, 0⟩] scope pos) (tE T R W (eLc fi g t f (own.map (·.2)))) :=
  se_lcX (W' := W) (fun σ C => AirC X W σ C) (fun I3 cL hC f3 => air_call I3 cL hC f3 rfl) (fun cF cL x => air_end tk hst hfr cF cL x) hc hN hi ok hb hwr hs
theorem s_setLc {i : Nat} {y : Str} {py spos : Pos} {elt tg iter : Expr} {ifs : List Expr} {scope : Scope} {own : List (Str × Nat)} {fi : AS → IR} {wr : List Nat} {g : GD} {t : AS → TR} {f : AS → ER}
    (tk : Takes X W) (hst : X.stack = X.env :: X.outer) (hfr : X.env.frame = some X.env.locals) (hc : X.calm = true) (hN : X.N.Nodup) (hy : X.N[i]? = some y) (hyl : X.env.scope.names.lookup y = some .local)
    (hsw : swapsWith (.ListComp elt [⟨tg, iter, ifs, 0⟩] scope pos) (some (.Name y py)) spos.line X.env = pure true) (hi : PI X tg iter (tI T R W fi)) (ok : BlkOk X.N X.env.scope scope own)
    (hb : BlkP X T R scope tg elt ifs wr g t f) (hwr : ∀ j ∈ wr, j ∈ own.map (·.2)) (hs : ∀ x, foldedSetIterable iter X.env x = pure x := by intro _; rfl) :
    PS X (.Assign [.Name y py] (.ListComp elt [⟨tg, iter, ifs, 0⟩] scope pos) spos) (tS T R W (sAsg i (eLc fi g t f (own.map (·.2))))) :=
  s_setLcX (fun σ C => AirC X W σ C) (fun I3 cL hC f3 => air_call I3 cL hC f3 rfl) (fun cF cL x => air_end tk hst hfr cF cL x) hc hN hy hyl hsw hi ok hb hwr hs
/-- anywhere: no error leaves it -/
def eNx (f : AS → ER) : AS → ER := fun A => match f A with
  | .exc _ _ _ => .fail
  | r => r
def iNx (f : AS → IR) : AS → IR := fun A => match f A with
  | .exc _ _ _ => .fail
  | r => r
abbrev W0 : WX := fun _ _ _ _ => False
theorem tE_nx {f : AS → ER} {σ : ST} {H : Hp} {Q : VK} (h : tE T R W (eNx f) σ H Q) : tE T R W0 f σ H Q := by
  obtain ⟨A, G, s, p⟩ := h
  refine ⟨A, G, s, ?_⟩
  unfold eNx at p
  cases q : f A with
  | ok v A1 => rw [q] at p; exact p
  | exc c fs A1 => rw [q] at p; exact p.elim
  | fail => rw [q] at p; exact p
theorem w0_passes {Y : Cx} : ∀ σ', PassesAt (L2.CX Y.prog Y.w) Y σ' (WE W0 σ') := fun σ' pins H s e s' I c => by
  obtain ⟨_, _, _, _, _, _, _, _, _, _, _, _, z⟩ := c
  exact z.elim
theorem se_lc0 {elt tg iter : Expr} {ifs : List Expr} {scope : Scope} {own : List (Str × Nat)} {fi : AS → IR} {wr : List Nat} {g : GD} {t : AS → TR} {f : AS → ER}
    (hc : X.calm = true) (hN : X.N.Nodup) (hi : PI X tg iter (tI T R W0 fi)) (ok : BlkOk X.N X.env.scope scope own)
    (hb : BlkP X T R scope tg elt ifs wr g t f) (hwr : ∀ j ∈ wr, j ∈ own.map (·.2)) (hs : ∀ x, foldedSetIterable iter X.env x = pure x := by intro _; rfl) :
    PE X (.ListComp elt [⟨tg, iter, ifs, 0⟩] scope pos) (tE T R W (eNx (eLc fi g t f (own.map (·.2))))) :=
  pe_imp (se_lcX (W := W0) (W' := W0) (fun _ _ _ _ => False) (fun {pins σ s3 H3 ce fp C} _ _ _ _ => w0_passes (Y := (X.blk s3 H3 scope ce fp).wish fun _ _ => False)) (fun _ _ x => x.elim) hc hN hi ok hb hwr hs) fun _ _ _ q => tE_nx q
end
end MR

namespace MR
open PySem PySem.Spec PyProof.Rows L2

/-! ### what is read of a value -/
section
variable {K : PySem.W.Frag} {G H : Hp} {x : V}
theorem RpB.non (h : RpB K G H .non x) : x = .non := by
  rcases h with h | ⟨a, e, w⟩
  · cases h; rfl
  · exact w.elim
theorem RpB.bl {b : Bool} (h : RpB K G H (.bl b) x) : x = .bl b := by
  rcases h with h | ⟨a, e, w⟩
  · cases h; rfl
  · exact w.elim
theorem RpB.int {i : Int} (h : RpB K G H (.int i) x) : x = .int i := by
  rcases h with h | ⟨a, e, w⟩
  · cases h; rfl
  · exact w.elim
theorem RpB.str {i : Str} (h : RpB K G H (.str i) x) : x = .str i := by
  rcases h with h | ⟨a, e, w⟩
  · cases h; rfl
  · exact w.elim
theorem RpB.lst {ds : List D} (s : Same G H) (h : RpB K G H (.lst ds) x) : ∃ a vs, x = .ref a ∧ H a = some (.lst vs) ∧ RpL K G ds vs := by
  rcases h with h | ⟨a, e, vs, h1, h2⟩
  · cases h with
    | lst h1 h2 => exact ⟨_, _, rfl, s _ _ h1, h2⟩
  · exact ⟨a, vs, e, h1, h2⟩
theorem RpB.tup {ds : List D} (s : Same G H) (h : RpB K G H (.tup ds) x) : ∃ a vs, x = .ref a ∧ SqT K H a vs ∧ RpL K G ds vs := by
  rcases h with h | ⟨a, e, w⟩
  · cases h with
    | tup h1 h2 => exact ⟨_, _, rfl, sqT_same s h1, h2⟩
  · exact w.elim
end
theorem RpB.frl {K : PySem.W.Frag} {G H : Hp} {x : V} {ds : List D} (s : Same G H) (h : RpB K G H (.frl ds) x) : ∃ a vs, x = .ref a ∧ SqL K H a vs ∧ RpL K G ds vs := by
  rcases h with h | ⟨a, e, w⟩
  · cases h with
    | frl h1 h2 => exact ⟨_, _, rfl, s.seq h1, h2⟩
  · exact w.elim
mutual
def toP : D → Option PyData
  | .non => some .none
  | .bl b => some (.bool b)
  | .int i => some (.int i)
  | .str x => some (.str x)
  | .tup l => match toPL l with
    | some ps => some (.tuple ps)
    | none => none
  | .lst l => match toPL l with
    | some ps => some (.list ps)
    | none => none
  | .dic _ => none
  | .ins _ _ => none
  | .frl _ => none
def toPL : List D → Option (List PyData)
  | [] => some []
  | d :: r => match toP d with
    | some p => match toPL r with
      | some ps => some (p :: ps)
      | none => none
    | none => none
end
mutual
theorem dp_of {K : PySem.W.Frag} {G H : Hp} (s : Same G H) : ∀ {d : D} {v : V} {p : PyData}, Rp K G d v → toP d = some p → Dp K H v p
  | _, _, _, .non, e => by unfold toP at e; cases e; exact .non
  | _, _, _, .bl b, e => by unfold toP at e; cases e; exact .bl b
  | _, _, _, .int b, e => by unfold toP at e; cases e; exact .int b
  | _, _, _, .str b, e => by unfold toP at e; cases e; exact .str b
  | .tup l, _, _, .tup h r, e => by
    unfold toP at e
    cases q : toPL l with
    | none => rw [q] at e; cases e
    | some ps => rw [q] at e; cases e; exact .tup (sqT_same s h) (dpl_of s r q)
  | .lst l, _, _, .lst h r, e => by
    unfold toP at e
    cases q : toPL l with
    | none => rw [q] at e; cases e
    | some ps => rw [q] at e; cases e; exact .lst (.inl (.inl (s _ _ h))) (dpl_of s r q)
  | .frl l, _, _, .frl h r, e => by unfold toP at e; cases e
  | .dic l, _, _, .dic h r, e => by unfold toP at e; cases e
theorem dpl_of {K : PySem.W.Frag} {G H : Hp} (s : Same G H) : ∀ {ds : List D} {vs : List V} {ps : List PyData}, RpL K G ds vs → toPL ds = some ps → DpAll K H vs ps
  | _, _, _, .nil, e => by unfold toPL at e; cases e; exact .nil
  | d :: ds, _, _, .cons r t, e => by
    unfold toPL at e
    cases q : toP d with
    | none => rw [q] at e; cases e
    | some p =>
      rw [q] at e
      dsimp only at e
      cases q2 : toPL ds with
      | none => rw [q2] at e; cases e
      | some ps => rw [q2] at e; cases e; exact .cons (dp_of s r q) (dpl_of s t q2)
end
theorem dpB {K : PySem.W.Frag} {G H : Hp} (s : Same G H) {d : D} {v : V} {p : PyData} (h : RpB K G H d v) (e : toP d = some p) : Dp K H v p := by
  rcases h with h | ⟨a, ea, w⟩
  · exact dp_of s h e
  · cases d with
    | lst l =>
      obtain ⟨vs, h1, h2⟩ := w
      subst ea
      unfold toP at e
      cases q : toPL l with
      | none => rw [q] at e; cases e
      | some ps => rw [q] at e; cases e; exact .lst (.inl (.inl h1)) (dpl_of s h2 q)
    | dic l => unfold toP at e; cases e
    | _ => exact w.elim

/-! ### operators -/
theorem opr_imp {X : Cx} {f : Value → Value → Sem Value} {r r' : R2} (h : OpR X f r) (w : ∀ x y H Q, r' x y H Q → r x y H Q) : OpR X f r' :=
  fun pins s σ H x y v u Q I rx ry q => h pins s σ H x y v u Q I rx ry (w x y H Q q)
theorem opr_or {X : Cx} {f : Value → Value → Sem Value} {r r' : R2} (h : OpR X f r) (h' : OpR X f r') : OpR X f (fun x y H Q => r x y H Q ∨ r' x y H Q) :=
  fun pins s σ H x y v u Q I rx ry q => q.elim (h pins s σ H x y v u Q I rx ry) (h' pins s σ H x y v u Q I rx ry)
def tooLong : Nat := 16777216
theorem tooLong_le {n : Nat} (h : n ≤ tooLong) : n ≤ sizeLine := by rw [sizeLine_eq]; exact h
def opAdd (d e : D) : FR := match d, e with
  | .int i, .int j => .ok (.int (i + j)) false
  | .tup a, .tup b => if a.length + b.length ≤ tooLong then .ok (.tup (a ++ b)) false else .fail
  | .lst a, .lst b => if a.length + b.length ≤ tooLong then .ok (.lst (a ++ b)) true else .fail
  | .str a, .str b => if a.length + b.length ≤ tooLong then .ok (.str (a ++ b)) false else .fail
  | _, _ => .fail
theorem lay_lst {K : PySem.W.Frag} {G H : Hp} {ds : List D} {vs : List V} {Q : VK} (s : Same G H) (r : RpL K G ds vs) (p : RN K G H (.ok (.lst ds) true) Q) : ∀ a, H a = none → Q (.ref a) (upd H a (.lst vs)) := fun a n =>
  p _ _ G (Step.tmp s n) ⟨a, rfl, n, s.free n, vs, upd_same, r⟩
theorem lay_tup {K : PySem.W.Frag} {G H : Hp} {ds : List D} {vs : List V} {Q : VK} (s : Same G H) (r : RpL K G ds vs) (p : RN K G H (.ok (.tup ds) false) Q) : ∀ a, H a = none → Q (.ref a) (upd H a (.tup vs)) := fun a n =>
  have st := Step.lay (o := .tup vs) s n
  p _ _ _ st (.tup (.inl (.inl upd_same)) (r.mono st.sG))
theorem rp_tup_of {K : PySem.W.Frag} {G H : Hp} {ds : List D} {x : V} (h : RpB K G H (.tup ds) x) : Rp K G (.tup ds) x := by
  rcases h with h | ⟨a, e, w⟩
  · exact h
  · exact w.elim
section
variable {X : Cx} {R : Rt}
theorem op_add_ok (hK : X.K = R.K) : OpR X (binaryOp .Add) (rO R.K opAdd) :=
  opr_imp (opr_or (opr_or op_add (opr_or (r := rCatA X.K) op_catA op_cat)) op_add_str) fun x y H Q ⟨G, d, e, s, rx, ry, p⟩ => by
    unfold opAdd at p
    split at p
    · exact .inl (.inl ⟨_, _, rx.int, ry.int, p.sc s (.int _)⟩)
    · rename_i a b
      split at p
      · rename_i hz
        obtain ⟨ax, vs, ex, hx, rlx⟩ := rx.tup s
        obtain ⟨ay, ws, ey, hy, rly⟩ := ry.tup s
        refine .inl (.inr (.inl ⟨ax, ay, vs, ws, ex, ey, by rw [hK]; exact hx, by rw [hK]; exact hy, by rw [← rlx.len, ← rly.len]; exact tooLong_le hz, fun e0 => ?_, fun e1 e0 => ?_, fun e1 e2 => ?_⟩))
        · subst e0
          cases rlx
          subst ey
          exact p.sc s (rp_tup_of ry)
        · subst e0
          cases rly
          rw [List.append_nil] at p
          subst ex
          exact p.sc s (rp_tup_of rx)
        · exact lay_tup s (rlx.app rly) p
      · exact p.elim
    · rename_i a b
      split at p
      · rename_i hz
        obtain ⟨ax, vs, ex, hx, rlx⟩ := rx.lst s
        obtain ⟨ay, ws, ey, hy, rly⟩ := ry.lst s
        exact .inl (.inr (.inr ⟨ax, ay, vs, ws, ex, ey, hx, hy, by rw [← rlx.len, ← rly.len]; exact tooLong_le hz, lay_lst s (rlx.app rly) p⟩))
      · exact p.elim
    · rename_i a b
      split at p
      · rename_i hz
        exact .inr ⟨a, b, rx.str, ry.str, tooLong_le hz, p.sc s (.str _)⟩
      · exact p.elim
    · exact p.elim
def opI (c : Int → Int → Bool) (g : Int → Int → Int) (d e : D) : FR := match d, e with
  | .int i, .int j => if c i j then .ok (.int (g i j)) false else .fail
  | _, _ => .fail
def opJ (g : Int → Int → Bool) (d e : D) : FR := match d, e with
  | .int i, .int j => .ok (.bl (g i j)) false
  | _, _ => .fail
theorem opI_ok {f : Value → Value → Sem Value} {K : PySem.W.Frag} {C : Int → Int → Prop} {c : Int → Int → Bool} {g : Int → Int → Int} (h : OpR X f (rI C fun i j => .int (g i j))) (w : ∀ i j, c i j = true → C i j) : OpR X f (rO K (opI c g)) :=
  opr_imp h fun x y H Q ⟨G, d, e, s, rx, ry, p⟩ => by
    unfold opI at p
    split at p
    · rename_i i j
      split at p
      · rename_i hc
        exact ⟨i, j, rx.int, ry.int, w i j hc, p.sc s (.int _)⟩
      · exact p.elim
    · exact p.elim
theorem opJ_ok {f : Value → Value → Sem Value} {K : PySem.W.Frag} {g : Int → Int → Bool} (h : OpR X f (rI0 fun i j => .bl (g i j))) : OpR X f (rO K (opJ g)) :=
  opr_imp h fun x y H Q ⟨G, d, e, s, rx, ry, p⟩ => by
    unfold opJ at p
    split at p
    · rename_i i j
      exact ⟨i, j, rx.int, ry.int, p.sc s (.bl _)⟩
    · exact p.elim
def ycs (_ _ : Int) : Bool := true
def opSub : D → D → FR := opI ycs fun i j => i - j
def cMul (i j : Int) : Bool := decide (i.natAbs.log2 + j.natAbs.log2 < 1000000)
def opMul : D → D → FR := opI cMul fun i j => i * j
def cDiv (_ j : Int) : Bool := decide (0 < j) && decide (j.natAbs.log2 < 9000)
def opDiv : D → D → FR := opI cDiv fun i j => i / j
def cMod (_ j : Int) : Bool := decide (0 < j)
def opMod : D → D → FR := opI cMod fun i j => i % j
def cPow (i j : Int) : Bool := decide (0 ≤ j) && decide (j ≤ 1000000) && decide (i.natAbs < 18446744073709551616)
def opPow : D → D → FR := opI cPow fun i j => i ^ j.toNat
def opShl : D → D → FR := opI cPow fun i j => i * 2 ^ j.toNat
def opAnd : D → D → FR := opI ycs fun i j => Builtin.bitAnd i j
theorem rI0_rI {g : Int → Int → V} {f : Value → Value → Sem Value} (h : OpR X f (rI0 g)) : OpR X f (rI (fun _ _ => True) g) := opr_imp h fun x y H Q ⟨i, j, a, b, _, q⟩ => ⟨i, j, a, b, q⟩
theorem op_sub_ok {K : PySem.W.Frag} : OpR X (binaryOp .Sub) (rO K opSub) := opI_ok (rI0_rI op_sub) fun _ _ _ => trivial
theorem op_mul_ok {K : PySem.W.Frag} : OpR X (binaryOp .Mult) (rO K opMul) := opI_ok op_mulW fun i j h => (of_decide_eq_true h : i.natAbs.log2 + j.natAbs.log2 < 1000000)
theorem op_div_ok {K : PySem.W.Frag} : OpR X (binaryOp .FloorDiv) (rO K opDiv) := opI_ok op_fdivW fun _ _ h => by
  unfold cDiv at h
  rw [Bool.and_eq_true] at h
  exact ⟨of_decide_eq_true h.1, of_decide_eq_true h.2⟩
theorem op_mod_ok {K : PySem.W.Frag} : OpR X (binaryOp .Mod) (rO K opMod) := opI_ok op_mod fun _ _ h => of_decide_eq_true h
theorem cpow_ok {i j : Int} (h : cPow i j = true) : CPow i j := by
  unfold cPow at h
  rw [Bool.and_eq_true, Bool.and_eq_true] at h
  refine ⟨of_decide_eq_true h.1.1, of_decide_eq_true h.1.2, ?_⟩
  have := of_decide_eq_true h.2
  have e : (2 : Nat) ^ 64 = 18446744073709551616 := by decide
  rw [e]; exact this
theorem op_pow_ok {K : PySem.W.Frag} : OpR X (binaryOp .Pow) (rO K opPow) := opI_ok op_pow fun _ _ h => cpow_ok h
theorem op_shl_ok {K : PySem.W.Frag} : OpR X (binaryOp .LShift) (rO K opShl) := opI_ok op_shl fun _ _ h => cpow_ok h
theorem op_and_ok {K : PySem.W.Frag} : OpR X (binaryOp .BitAnd) (rO K opAnd) := opI_ok (rI0_rI op_and) fun _ _ _ => trivial
def opLt : D → D → FR := opJ fun i j => decide (i < j)
def opLe : D → D → FR := opJ fun i j => decide (i ≤ j)
def opGt : D → D → FR := opJ fun i j => decide (j < i)
def opGe : D → D → FR := opJ fun i j => decide (j ≤ i)
theorem op_lt_ok {K : PySem.W.Frag} : OpR X (compareOp .Lt) (rO K opLt) := opJ_ok op_lt
theorem op_le_ok {K : PySem.W.Frag} : OpR X (compareOp .LtE) (rO K opLe) := opJ_ok op_le
theorem op_gt_ok {K : PySem.W.Frag} : OpR X (compareOp .Gt) (rO K opGt) := opJ_ok op_gt
theorem op_ge_ok {K : PySem.W.Frag} : OpR X (compareOp .GtE) (rO K opGe) := opJ_ok op_ge
theorem iop_add_ok {K : PySem.W.Frag} : OpR X (inplaceOp .Add) (rO K (opI ycs fun i j => i + j)) := opI_ok (rI0_rI iop_add) fun _ _ _ => trivial
theorem iop_sub_ok {K : PySem.W.Frag} : OpR X (inplaceOp .Sub) (rO K opSub) := opI_ok (rI0_rI iop_sub) fun _ _ _ => trivial
theorem iop_div_ok {K : PySem.W.Frag} : OpR X (inplaceOp .FloorDiv) (rO K opDiv) := opI_ok iop_fdivW fun _ _ h => by
  unfold cDiv at h
  rw [Bool.and_eq_true] at h
  exact ⟨of_decide_eq_true h.1, of_decide_eq_true h.2⟩
/-- deep equality -/
def eqP (d e : D) : Option Bool := match toP d with
  | some p => match toP e with
    | some q => if SeqAt.shaped p && SeqAt.shaped q then some (PyData.eqv p q) else none
    | none => none
  | none => none
def opEq (d e : D) : FR := match eqP d e with
  | some b => .ok (.bl b) false
  | none => .fail
def opNe (d e : D) : FR := match eqP d e with
  | some b => .ok (.bl (!b)) false
  | none => .fail
theorem eqP_ok {K : PySem.W.Frag} {G H : Hp} {d e : D} {x y : V} {b : Bool} (s : Same G H) (rx : RpB K G H d x) (ry : RpB K G H e y) (h : eqP d e = some b) : ∃ p q, Dp K H x p ∧ Dp K H y q ∧ SeqAt.shaped p = true ∧ SeqAt.shaped q = true ∧ PyData.eqv p q = b := by
  unfold eqP at h
  cases q1 : toP d with
  | none => rw [q1] at h; cases h
  | some p =>
    rw [q1] at h
    dsimp only at h
    cases q2 : toP e with
    | none => rw [q2] at h; cases h
    | some q =>
      rw [q2] at h
      dsimp only at h
      split at h
      · rename_i hs
        rw [Bool.and_eq_true] at hs
        cases h
        exact ⟨p, q, dpB s rx q1, dpB s ry q2, hs.1, hs.2, rfl⟩
      · cases h
theorem op_eq_ok (hK : X.K = R.K) (hu : X.A.units + 64 < cLine) : OpR X (compareOp .Eq) (rO R.K opEq) := opr_imp (op_eqD hu) fun x y H Q ⟨G, d, e, s, rx, ry, p⟩ => by
  unfold opEq at p
  cases q : eqP d e with
  | none => rw [q] at p; exact p.elim
  | some b =>
    rw [q] at p
    obtain ⟨u, w, h1, h2, h3, h4, h5⟩ := eqP_ok s rx ry q
    exact ⟨u, w, by rw [hK]; exact h1, by rw [hK]; exact h2, h3, h4, by rw [h5]; exact p.sc s (.bl _)⟩
theorem op_ne_ok (hK : X.K = R.K) (hu : X.A.units + 64 < cLine) : OpR X (compareOp .NotEq) (rO R.K opNe) := opr_imp (op_neD hu) fun x y H Q ⟨G, d, e, s, rx, ry, p⟩ => by
  unfold opNe at p
  cases q : eqP d e with
  | none => rw [q] at p; exact p.elim
  | some b =>
    rw [q] at p
    obtain ⟨u, w, h1, h2, h3, h4, h5⟩ := eqP_ok s rx ry q
    exact ⟨u, w, by rw [hK]; exact h1, by rw [hK]; exact h2, h3, h4, by rw [h5]; exact p.sc s (.bl _)⟩
/-- is None, is True, is False -/
def isNon : D → Bool
  | .non => true
  | _ => false
def isP (d e : D) : Option Bool := match e with
  | .non => some (isNon d)
  | .bl b => match d with
    | .bl a => some (decide (a = b))
    | _ => none
  | _ => none
def opIs (d e : D) : FR := match isP d e with
  | some b => .ok (.bl b) false
  | none => .fail
def opNis (d e : D) : FR := match isP d e with
  | some b => .ok (.bl (!b)) false
  | none => .fail
theorem non_ok {K : PySem.W.Frag} {G H : Hp} {d : D} {x : V} (r : RpB K G H d x) : isNon d = decide (x = .non) := by
  rcases r with r | ⟨a, e, w⟩
  · cases r <;> simp [isNon]
  · subst e
    cases d with
    | lst l => simp [isNon]
    | dic l => simp [isNon]
    | _ => exact w.elim
theorem op_is_ok {K : PySem.W.Frag} : OpR X (compareOp .Is) (rO K opIs) := opr_imp (opr_or op_isN op_isBl) fun x y H Q ⟨G, d, e, s, rx, ry, p⟩ => by
  unfold opIs isP at p
  split at p
  · rename_i b hb
    split at hb
    · cases hb
      rw [non_ok rx] at p
      exact .inl ⟨ry.non, p.sc s (.bl _)⟩
    · split at hb
      · cases hb
        exact .inr ⟨_, _, rx.bl, ry.bl, p.sc s (.bl _)⟩
      · cases hb
    · cases hb
  · exact p.elim
theorem op_nis_ok {K : PySem.W.Frag} : OpR X (compareOp .IsNot) (rO K opNis) := opr_imp (opr_or op_notN op_notBl) fun x y H Q ⟨G, d, e, s, rx, ry, p⟩ => by
  unfold opNis isP at p
  split at p
  · rename_i b hb
    split at hb
    · cases hb
      rw [non_ok rx] at p
      exact .inl ⟨ry.non, p.sc s (.bl _)⟩
    · split at hb
      · cases hb
        exact .inr ⟨_, _, rx.bl, ry.bl, p.sc s (.bl _)⟩
      · cases hb
    · cases hb
  · exact p.elim
/-- subscripts -/
def opIx (d e : D) : FR := match e with
  | .int i => match d with
    | .tup l => match atI l i with
      | some d => .ok d false
      | none => .fail
    | .lst l => match atI l i with
      | some d => .ok d false
      | none => .fail
    | .frl l => match atI l i with
      | some d => .ok d false
      | none => .fail
    | _ => .fail
  | _ => .fail
theorem RpL.atI {K : PySem.W.Frag} {G : Hp} {ds : List D} {vs : List V} {i : Int} {d : D} (r : RpL K G ds vs) (h : L2.atI ds i = some d) : ∃ v, L2.atI vs i = some v ∧ Rp K G d v := by
  unfold L2.atI at h ⊢
  rw [r.len] at h
  cases q : ixN vs.length i with
  | none => rw [q] at h; cases h
  | some j =>
    rw [q] at h
    exact r.getD h
theorem op_ix_ok (hK : X.K = R.K) : IxR X (rO R.K opIx) := fun value slice pins st σ H x y v u Q I rvx rvy ⟨G, d, e, s, rx, ry, p⟩ hs => by
  refine (ix_list.or ix_tup) value slice pins st σ H x y v u Q I rvx rvy ?_ hs
  unfold opIx at p
  split at p
  · rename_i i
    split at p
    · rename_i l
      split at p
      · rename_i d' hd
        obtain ⟨a, vs, ex, hx, rl⟩ := rx.tup s
        obtain ⟨w, hw, rw_⟩ := rl.atI hd
        exact .inr ⟨a, vs, i, w, ex, ry.int, by rw [hK]; exact hx, hw, p.sc s rw_⟩
      · exact p.elim
    · rename_i l
      split at p
      · rename_i d' hd
        obtain ⟨a, vs, ex, hx, rl⟩ := rx.lst s
        obtain ⟨w, hw, rw_⟩ := rl.atI hd
        exact .inl ⟨a, vs, i, w, ex, ry.int, .inl (.inl hx), hw, p.sc s rw_⟩
      · exact p.elim
    · rename_i l
      split at p
      · rename_i d' hd
        obtain ⟨a, vs, ex, hx, rl⟩ := rx.frl s
        obtain ⟨w, hw, rw_⟩ := rl.atI hd
        exact .inl ⟨a, vs, i, w, ex, ry.int, by rw [hK]; exact hx, hw, p.sc s rw_⟩
      · exact p.elim
    · exact p.elim
  · exact p.elim
/-- unary minus -/
def opNeg (d : D) : FR := match d with
  | .int i => .ok (.int (-i)) false
  | _ => .fail
theorem un_neg_ok {K : PySem.W.Frag} : UnR X (unaryOp .USub) (rU1 K opNeg) := fun pins st σ H x v Q I rv ⟨G, d, s, rx, p⟩ => by
  unfold opNeg at p
  split at p
  · rename_i i
    exact un_neg pins st σ H x v Q I rv ⟨i, rx.int, p.sc s (.int _)⟩
  · exact p.elim
end
end MR

namespace MR
open PySem PySem.Spec PyProof.Rows L2

/-! ### built-in functions -/
theorem callr_imp {X : Cx} {f : Value} {r r' : List V → Hp → VK → Prop} (h : CallR X f r) (w : ∀ xs H Q, r' xs H Q → r xs H Q) : CallR X f r' := fun pins s σ H xs us Q I rv q => h pins s σ H xs us Q I rv (w xs H Q q)
theorem callr_or {X : Cx} {f : Value} {r r' : List V → Hp → VK → Prop} (h : CallR X f r) (h' : CallR X f r') : CallR X f (fun xs H Q => r xs H Q ∨ r' xs H Q) := fun pins s σ H xs us Q I rv q => q.elim (h pins s σ H xs us Q I rv) (h' pins s σ H xs us Q I rv)
theorem RpBL.one {K : PySem.W.Frag} {G H : Hp} {d : D} {xs : List V} (h : RpBL K G H [d] xs) : ∃ x, xs = [x] ∧ RpB K G H d x := by
  cases h with
  | cons a t => cases t; exact ⟨_, rfl, a⟩
theorem RpBL.two {K : PySem.W.Frag} {G H : Hp} {d e : D} {xs : List V} (h : RpBL K G H [d, e] xs) : ∃ x y, xs = [x, y] ∧ RpB K G H d x ∧ RpB K G H e y := by
  cases h with
  | cons a t => cases t with
    | cons b t => cases t; exact ⟨_, _, rfl, a, b⟩
def intsL : List D → Option (List Int)
  | [] => some []
  | .int i :: r => match intsL r with
    | some l => some (i :: l)
    | none => none
  | _ :: _ => none
theorem intsL_ok {K : PySem.W.Frag} {G : Hp} : ∀ {ds : List D} {vs : List V} {ns : List Int}, RpL K G ds vs → intsL ds = some ns → vs = ns.map V.int
  | _, _, _, .nil, h => by cases h; rfl
  | .int i :: ds, _, _, .cons r t, h => by
    cases r
    unfold intsL at h
    cases q : intsL ds with
    | none => rw [q] at h; cases h
    | some l => rw [q] at h; cases h; rw [intsL_ok t q]; rfl
  | .non :: _, _, _, .cons r t, h => nomatch h
  | .bl _ :: _, _, _, .cons r t, h => nomatch h
  | .str _ :: _, _, _, .cons r t, h => nomatch h
  | .tup _ :: _, _, _, .cons r t, h => nomatch h
  | .lst _ :: _, _, _, .cons r t, h => nomatch h
  | .dic _ :: _, _, _, .cons r t, h => nomatch h
  | .ins _ _ :: _, _, _, .cons r t, h => nomatch h
  | .frl _ :: _, _, _, .cons r t, h => nomatch h
def blsL : List D → Option (List Bool)
  | [] => some []
  | .bl i :: r => match blsL r with
    | some l => some (i :: l)
    | none => none
  | _ :: _ => none
theorem blsL_ok {K : PySem.W.Frag} {G : Hp} : ∀ {ds : List D} {vs : List V} {ns : List Bool}, RpL K G ds vs → blsL ds = some ns → vs = ns.map V.bl
  | _, _, _, .nil, h => by cases h; rfl
  | .bl i :: ds, _, _, .cons r t, h => by
    cases r
    unfold blsL at h
    cases q : blsL ds with
    | none => rw [q] at h; cases h
    | some l => rw [q] at h; cases h; rw [blsL_ok t q]; rfl
  | .non :: _, _, _, .cons r t, h => nomatch h
  | .int _ :: _, _, _, .cons r t, h => nomatch h
  | .str _ :: _, _, _, .cons r t, h => nomatch h
  | .tup _ :: _, _, _, .cons r t, h => nomatch h
  | .lst _ :: _, _, _, .cons r t, h => nomatch h
  | .dic _ :: _, _, _, .cons r t, h => nomatch h
  | .ins _ _ :: _, _, _, .cons r t, h => nomatch h
  | .frl _ :: _, _, _, .cons r t, h => nomatch h
def bLen : List D → FR
  | [.lst l] => .ok (.int (l.length : Nat)) false
  | [.tup l] => .ok (.int (l.length : Nat)) false
  | [.frl l] => .ok (.int (l.length : Nat)) false
  | [.str x] => if x.length ≤ tooLong then .ok (.int (x.length : Nat)) false else .fail
  | _ => .fail
def bAbs : List D → FR
  | [.int i] => .ok (.int (if i < 0 then -i else i)) false
  | _ => .fail
def bInt : List D → FR
  | [.int i] => .ok (.int i) false
  | [.bl b] => .ok (.int (if b then 1 else 0)) false
  | _ => .fail
def bTup : List D → FR
  | [.lst l] => .ok (.tup l) false
  | [.tup l] => .ok (.tup l) false
  | _ => .fail
def bLst : List D → FR
  | [.lst l] => .ok (.lst l) true
  | [.tup l] => .ok (.lst l) true
  | _ => .fail
def bAll : List D → FR
  | [.lst l] => match blsL l with
    | some bs => .ok (.bl (bs.all id)) false
    | none => .fail
  | _ => .fail
def bAny : List D → FR
  | [.lst l] => match blsL l with
    | some bs => .ok (.bl (bs.any id)) false
    | none => .fail
  | _ => .fail
def bSum : List D → FR
  | [.lst l] => match intsL l with
    | some bs => .ok (.int bs.sum) false
    | none => .fail
  | _ => .fail
def bGcd : List D → FR
  | [.int i, .int j] => .ok (.int ((Nat.gcd i.natAbs j.natAbs : Nat) : Int)) false
  | _ => .fail
def maxL (l : List D) : FR := match intsL l with
  | some (n :: ns) => .ok (.int (ns.foldl max n)) false
  | _ => .fail
def minL (l : List D) : FR := match intsL l with
  | some (n :: ns) => .ok (.int (ns.foldl min n)) false
  | _ => .fail
def bMax : List D → FR
  | [.int i, .int j] => .ok (.int (if j > i then j else i)) false
  | [.lst l] => maxL l
  | [.tup l] => maxL l
  | _ => .fail
def bMin : List D → FR
  | [.int i, .int j] => .ok (.int (if j < i then j else i)) false
  | [.lst l] => minL l
  | [.tup l] => minL l
  | _ => .fail
theorem foldl_max_mem : ∀ (ns : List Int) (n : Int), ns.foldl max n ∈ n :: ns ∧ ∀ y ∈ n :: ns, y ≤ ns.foldl max n
  | [], n => ⟨by simp, by simp⟩
  | m :: ns, n => by
    obtain ⟨h1, h2⟩ := foldl_max_mem ns (max n m)
    have hm : max n m = n ∨ max n m = m := by omega
    refine ⟨?_, fun y hy => ?_⟩
    · simp only [List.foldl_cons]
      rcases List.mem_cons.mp h1 with e | e
      · rw [e]; rcases hm with z | z <;> rw [z] <;> simp
      · simp [e]
    · simp only [List.foldl_cons]
      have := h2 (max n m) (by simp)
      rcases List.mem_cons.mp hy with e | e
      · omega
      · rcases List.mem_cons.mp e with e | e
        · omega
        · exact h2 y (by simp [e])
theorem foldl_min_mem : ∀ (ns : List Int) (n : Int), ns.foldl min n ∈ n :: ns ∧ ∀ y ∈ n :: ns, ns.foldl min n ≤ y
  | [], n => ⟨by simp, by simp⟩
  | m :: ns, n => by
    obtain ⟨h1, h2⟩ := foldl_min_mem ns (min n m)
    have hm : min n m = n ∨ min n m = m := by omega
    refine ⟨?_, fun y hy => ?_⟩
    · simp only [List.foldl_cons]
      rcases List.mem_cons.mp h1 with e | e
      · rw [e]; rcases hm with z | z <;> rw [z] <;> simp
      · simp [e]
    · simp only [List.foldl_cons]
      have := h2 (min n m) (by simp)
      rcases List.mem_cons.mp hy with e | e
      · omega
      · rcases List.mem_cons.mp e with e | e
        · omega
        · exact h2 y (by simp [e])
section
variable {prog : Program} {w : World} {A : Around} {E : Value → Shared → Prop} {s : Shared} {l : Addr} {its : List Value} {ns : List Int} {Q : Value → Shared → Prop}
theorem tup_walk {xs : Array (Int × Tok)} {QQ : Value → Shared → Prop} (hl : s.heap.IsTuple l (intItems xs)) (hh : A.handled = none)
    (h : ∀ s₂ : Shared, (∀ b o, s.heap.get? b = some o → s₂.heap.get? b = some o) → (∃ h2, s₂ = { s with heap := h2 }) → s₂.heap.IsTupleIter s.heap.objs.size l 0 ∧ s₂.heap.IsTuple l (intItems xs) → (∀ b ∈ [s.heap.objs.size, l], b < s₂.heap.objs.size) → l ≠ s.heap.objs.size → QQ (.ref s.heap.objs.size) s₂) :
    wpAny (model prog w) A (pyIter (.ref l)) QQ E s := by
  have hlt : l < s.heap.objs.size := by obtain ⟨_, e, _⟩ := hl; exact Heap.lt_size e
  refine wpAny_pyIter_tuple hl (h _ (fun b o e => Heap.get?_push_of_some _ e) ⟨_, rfl⟩ ⟨⟨_, Heap.get?_push_size _ rfl, rfl, rfl⟩, ?_⟩ (fun b hb => ?_) (Nat.ne_of_lt hlt))
  · obtain ⟨o, e, r⟩ := hl
    exact ⟨o, Heap.get?_push_of_some _ e, r⟩
  · show b < (s.heap.push _).objs.size
    rw [Heap.size_push]
    rcases List.mem_cons.mp hb with rfl | hb
    · exact Nat.lt_succ_self _
    · rw [List.mem_singleton] at hb; subst hb
      exact Nat.lt_succ_of_lt hlt
theorem max_rawT (hh : A.handled = none) (hl : s.heap.IsTuple l its.toArray) (hi : IntsAre its ns) (hne : 0 < ns.length)
    (h : ∀ h' tk M t', (∀ b o, s.heap.get? b = some o → h'.get? b = some o) → M ∈ ns → (∀ a, a ∈ ns → a ≤ M) → Q (.int M t') { s with heap := h', toks := tk }) : wpAny (model prog w) A (call (.builtin "max") [.ref l]) Q E s := by
  obtain ⟨xs, e⟩ := hi.allInts.items
  have hn : numsOf (intItems xs).toList = ns := by rw [← e]; exact hi.numsOf
  rw [nums_intItems] at hn
  subst hn
  rw [e] at hl
  have hsz : 0 < xs.size := by simpa using hne
  refine call_max_walk (tup_walk hl hh fun s₂ kp ⟨h2, e2⟩ st hfp hlI => ?_)
  subst e2
  refine ⟨_, _, _, _, _, _, _, rfl, Walks.tuple (A := A.in1) hh _ l hlI (intItems xs), st, hfp, by simpa [intItems] using hsz, CmpOf.ints_gt (numAt xs) (fun _ _ => intItems_at), fun v h' tk hP hk => ?_⟩
  obtain ⟨t, rfl⟩ := intItems_at hP
  have hz : (intItems xs).size = xs.size := by simp [intItems]
  rw [hz]
  obtain ⟨h1, h3⟩ := argBest_gt (numAt xs) (xs.size - 1)
  refine h h' tk _ t (fun b o eb => hk b o (fun z => ?_) (kp b o eb)) ?_ fun a ha => ?_
  · rw [List.mem_singleton] at z; subst z
    exact absurd (Heap.lt_size eb) (Nat.lt_irrefl _)
  · rw [numAt_eq]; exact PySem.getD_mem (by rw [List.length_map, Array.length_toList]; omega)
  · obtain ⟨j, hj, rfl⟩ := mem_getD ha
    rw [List.length_map, Array.length_toList] at hj
    rw [← numAt_eq]; exact h3 j (by omega)
theorem min_rawT (hh : A.handled = none) (hl : s.heap.IsTuple l its.toArray) (hi : IntsAre its ns) (hne : 0 < ns.length)
    (h : ∀ h' tk M t', (∀ b o, s.heap.get? b = some o → h'.get? b = some o) → M ∈ ns → (∀ a, a ∈ ns → M ≤ a) → Q (.int M t') { s with heap := h', toks := tk }) : wpAny (model prog w) A (call (.builtin "min") [.ref l]) Q E s := by
  obtain ⟨xs, e⟩ := hi.allInts.items
  have hn : numsOf (intItems xs).toList = ns := by rw [← e]; exact hi.numsOf
  rw [nums_intItems] at hn
  subst hn
  rw [e] at hl
  have hsz : 0 < xs.size := by simpa using hne
  refine call_min_walk (tup_walk hl hh fun s₂ kp ⟨h2, e2⟩ st hfp hlI => ?_)
  subst e2
  refine ⟨_, _, _, _, _, _, _, rfl, Walks.tuple (A := A.in1) hh _ l hlI (intItems xs), st, hfp, by simpa [intItems] using hsz, CmpOf.ints_lt (numAt xs) (fun _ _ => intItems_at), fun v h' tk hP hk => ?_⟩
  obtain ⟨t, rfl⟩ := intItems_at hP
  have hz : (intItems xs).size = xs.size := by simp [intItems]
  rw [hz]
  obtain ⟨h1, h3⟩ := argBest_lt (numAt xs) (xs.size - 1)
  refine h h' tk _ t (fun b o eb => hk b o (fun z => ?_) (kp b o eb)) ?_ fun a ha => ?_
  · rw [List.mem_singleton] at z; subst z
    exact absurd (Heap.lt_size eb) (Nat.lt_irrefl _)
  · rw [numAt_eq]; exact PySem.getD_mem (by rw [List.length_map, Array.length_toList]; omega)
  · obtain ⟨j, hj, rfl⟩ := mem_getD ha
    rw [List.length_map, Array.length_toList] at hj
    rw [← numAt_eq]; exact h3 j (by omega)
end
section
variable {X : Cx} {R : Rt}
def rMaxT (K : PySem.W.Frag) : List V → Hp → VK → Prop := fun vs H Q => ∃ (a : Addr) (ns : List Int), vs = [V.ref a] ∧ SqT K H a (ns.map V.int) ∧ 0 < ns.length ∧ ∀ m, m ∈ ns → (∀ y, y ∈ ns → y ≤ m) → Q (.int m) H
def rMinT (K : PySem.W.Frag) : List V → Hp → VK → Prop := fun vs H Q => ∃ (a : Addr) (ns : List Int), vs = [V.ref a] ∧ SqT K H a (ns.map V.int) ∧ 0 < ns.length ∧ ∀ m, m ∈ ns → (∀ y, y ∈ ns → m ≤ y) → Q (.int m) H
theorem cr_maxT (hc : X.calm = true) : CallR X (.builtin "max") (rMaxT X.K) := fun pins s σ H vs us Q I r ⟨a, ns, ev, hs, hne, q⟩ => by
  subst ev
  obtain ⟨its, rv, hl, _⟩ := I.tuple hs
  rw [Vals.ref1 r]
  exact max_rawT (I.ok.hd hc) hl rv.ints hne fun h' tk m t' hk h1 h2 => ⟨.int _, H, I.kept hk, ⟨_, rfl⟩, q m h1 h2⟩
theorem cr_minT (hc : X.calm = true) : CallR X (.builtin "min") (rMinT X.K) := fun pins s σ H vs us Q I r ⟨a, ns, ev, hs, hne, q⟩ => by
  subst ev
  obtain ⟨its, rv, hl, _⟩ := I.tuple hs
  rw [Vals.ref1 r]
  exact min_rawT (I.ok.hd hc) hl rv.ints hne fun h' tk m t' hk h1 h2 => ⟨.int _, H, I.kept hk, ⟨_, rfl⟩, q m h1 h2⟩
theorem cr_len_ok (hK : X.K = R.K) : CallR X (.builtin "len") (rB R.K bLen) := callr_imp call_len fun xs H Q ⟨G, ds, s, r, p⟩ => by
  unfold bLen at p
  split at p
  · obtain ⟨x, ex, rx⟩ := r.one
    obtain ⟨a, vs, e, h, rl⟩ := rx.lst s
    subst e
    exact ⟨_, _, ex, .inl ⟨vs, .inl (.inl h), rfl⟩, by rw [← rl.len]; exact p.sc s (.int _)⟩
  · obtain ⟨x, ex, rx⟩ := r.one
    obtain ⟨a, vs, e, h, rl⟩ := rx.tup s
    subst e
    exact ⟨_, _, ex, .inr ⟨vs, by rw [hK]; exact h, rfl⟩, by rw [← rl.len]; exact p.sc s (.int _)⟩
  · obtain ⟨x, ex, rx⟩ := r.one
    obtain ⟨a, vs, e, h, rl⟩ := rx.frl s
    subst e
    exact ⟨_, _, ex, .inl ⟨vs, by rw [hK]; exact h, rfl⟩, by rw [← rl.len]; exact p.sc s (.int _)⟩
  · obtain ⟨x, ex, rx⟩ := r.one
    split at p
    · rename_i hz
      cases rx.str
      exact ⟨_, _, ex, ⟨tooLong_le hz, rfl⟩, p.sc s (.int _)⟩
    · exact p.elim
  · exact p.elim
theorem cr_abs_ok {K : PySem.W.Frag} : CallR X (.builtin "abs") (rB K bAbs) := callr_imp call_abs fun xs H Q ⟨G, ds, s, r, p⟩ => by
  unfold bAbs at p
  split at p
  · obtain ⟨x, ex, rx⟩ := r.one
    cases rx.int
    exact ⟨_, ex, p.sc s (.int _)⟩
  · exact p.elim
theorem cr_int_ok {K : PySem.W.Frag} : CallR X (.type "int") (rB K bInt) := callr_imp call_int1 fun xs H Q ⟨G, ds, s, r, p⟩ => by
  unfold bInt at p
  split at p
  · obtain ⟨x, ex, rx⟩ := r.one
    cases rx.int
    exact .inl ⟨_, ex, p.sc s (.int _)⟩
  · obtain ⟨x, ex, rx⟩ := r.one
    cases rx.bl
    exact .inr ⟨_, ex, p.sc s (.int _)⟩
  · exact p.elim
theorem cr_tup_ok (hK : X.K = R.K) : CallR X (.type "tuple") (rB R.K bTup) := callr_imp call_tuple_of fun xs H Q ⟨G, ds, s, r, p⟩ => by
  unfold bTup at p
  split at p
  · obtain ⟨x, ex, rx⟩ := r.one
    obtain ⟨a, vs, e, h, rl⟩ := rx.lst s
    subst e
    exact ⟨a, vs, ex, .inl ⟨.inl (.inl h), lay_tup s rl p⟩⟩
  · obtain ⟨x, ex, rx⟩ := r.one
    obtain ⟨a, vs, e, h, rl⟩ := rx.tup s
    subst e
    exact ⟨a, vs, ex, .inr ⟨by rw [hK]; exact h, p.sc s (rp_tup_of rx)⟩⟩
  · exact p.elim
theorem cr_lst_ok (hK : X.K = R.K) : CallR X (.type "list") (rB R.K bLst) := callr_imp call_list_of fun xs H Q ⟨G, ds, s, r, p⟩ => by
  unfold bLst at p
  split at p
  · obtain ⟨x, ex, rx⟩ := r.one
    obtain ⟨a, vs, e, h, rl⟩ := rx.lst s
    subst e
    exact ⟨a, vs, ex, .inl (.inl (.inl h)), lay_lst s rl p⟩
  · obtain ⟨x, ex, rx⟩ := r.one
    obtain ⟨a, vs, e, h, rl⟩ := rx.tup s
    subst e
    exact ⟨a, vs, ex, .inr (by rw [hK]; exact h), lay_lst s rl p⟩
  · exact p.elim
theorem cr_all_ok {K : PySem.W.Frag} (hc : X.calm = true) : CallR X (.builtin "all") (rB K bAll) := callr_imp (cr_all hc) fun xs H Q ⟨G, ds, s, r, p⟩ => by
  unfold bAll at p
  split at p
  · obtain ⟨x, ex, rx⟩ := r.one
    obtain ⟨a, vs, e, h, rl⟩ := rx.lst s
    subst e
    split at p
    · rename_i bs hb
      have := blsL_ok rl hb
      subst this
      exact ⟨a, bs, ex, .inl (.inl h), p.sc s (.bl _)⟩
    · exact p.elim
  · exact p.elim
theorem cr_any_ok {K : PySem.W.Frag} (hc : X.calm = true) : CallR X (.builtin "any") (rB K bAny) := callr_imp (cr_any hc) fun xs H Q ⟨G, ds, s, r, p⟩ => by
  unfold bAny at p
  split at p
  · obtain ⟨x, ex, rx⟩ := r.one
    obtain ⟨a, vs, e, h, rl⟩ := rx.lst s
    subst e
    split at p
    · rename_i bs hb
      have := blsL_ok rl hb
      subst this
      exact ⟨a, bs, ex, .inl (.inl h), p.sc s (.bl _)⟩
    · exact p.elim
  · exact p.elim
theorem cr_sum_ok {K : PySem.W.Frag} (hc : X.calm = true) : CallR X (.builtin "sum") (rB K bSum) := callr_imp (cr_sum hc) fun xs H Q ⟨G, ds, s, r, p⟩ => by
  unfold bSum at p
  split at p
  · obtain ⟨x, ex, rx⟩ := r.one
    obtain ⟨a, vs, e, h, rl⟩ := rx.lst s
    subst e
    split at p
    · rename_i bs hb
      have := intsL_ok rl hb
      subst this
      exact ⟨a, bs, ex, .inl (.inl h), p.sc s (.int _)⟩
    · exact p.elim
  · exact p.elim
theorem cr_gcd_ok {K : PySem.W.Frag} : CallR X (.builtin "math.gcd") (rB K bGcd) := callr_imp cr_gcd fun xs H Q ⟨G, ds, s, r, p⟩ => by
  unfold bGcd at p
  split at p
  · obtain ⟨x, y, ex, rx, ry⟩ := r.two
    cases rx.int
    cases ry.int
    exact ⟨_, _, ex, p.sc s (.int _)⟩
  · exact p.elim
theorem best_max {n : Int} {ns : List Int} {m : Int} (h : m ∈ n :: ns) (h2 : ∀ y ∈ n :: ns, y ≤ m) : m = ns.foldl max n := by
  obtain ⟨a, b⟩ := foldl_max_mem ns n
  have := b m h
  have := h2 _ a
  omega
theorem best_min {n : Int} {ns : List Int} {m : Int} (h : m ∈ n :: ns) (h2 : ∀ y ∈ n :: ns, m ≤ y) : m = ns.foldl min n := by
  obtain ⟨a, b⟩ := foldl_min_mem ns n
  have := b m h
  have := h2 _ a
  omega
theorem cr_max_ok (hK : X.K = R.K) (hc : X.calm = true) : CallR X (.builtin "max") (rB R.K bMax) := callr_imp (callr_or (call_max2 hc) (callr_or (cr_max hc) (cr_maxT hc))) fun xs H Q ⟨G, ds, s, r, p⟩ => by
  unfold bMax at p
  split at p
  · obtain ⟨x, y, ex, rx, ry⟩ := r.two
    cases rx.int
    cases ry.int
    exact .inl ⟨_, _, ex, p.sc s (.int _)⟩
  · obtain ⟨x, ex, rx⟩ := r.one
    obtain ⟨a, vs, e, h, rl⟩ := rx.lst s
    subst e
    unfold maxL at p
    split at p
    · rename_i n ns hb
      have := intsL_ok rl hb
      subst this
      refine .inr (.inl ⟨a, n :: ns, ex, .inl (.inl h), by simp, fun m h1 h2 => ?_⟩)
      rw [best_max h1 h2]
      exact p.sc s (.int _)
    · exact p.elim
  · obtain ⟨x, ex, rx⟩ := r.one
    obtain ⟨a, vs, e, h, rl⟩ := rx.tup s
    subst e
    unfold maxL at p
    split at p
    · rename_i n ns hb
      have := intsL_ok rl hb
      subst this
      refine .inr (.inr ⟨a, n :: ns, ex, by rw [hK]; exact h, by simp, fun m h1 h2 => ?_⟩)
      rw [best_max h1 h2]
      exact p.sc s (.int _)
    · exact p.elim
  · exact p.elim
theorem cr_min_ok (hK : X.K = R.K) (hc : X.calm = true) : CallR X (.builtin "min") (rB R.K bMin) := callr_imp (callr_or (call_min2 hc) (callr_or (cr_min hc) (cr_minT hc))) fun xs H Q ⟨G, ds, s, r, p⟩ => by
  unfold bMin at p
  split at p
  · obtain ⟨x, y, ex, rx, ry⟩ := r.two
    cases rx.int
    cases ry.int
    exact .inl ⟨_, _, ex, p.sc s (.int _)⟩
  · obtain ⟨x, ex, rx⟩ := r.one
    obtain ⟨a, vs, e, h, rl⟩ := rx.lst s
    subst e
    unfold minL at p
    split at p
    · rename_i n ns hb
      have := intsL_ok rl hb
      subst this
      refine .inr (.inl ⟨a, n :: ns, ex, .inl (.inl h), by simp, fun m h1 h2 => ?_⟩)
      rw [best_min h1 h2]
      exact p.sc s (.int _)
    · exact p.elim
  · obtain ⟨x, ex, rx⟩ := r.one
    obtain ⟨a, vs, e, h, rl⟩ := rx.tup s
    subst e
    unfold minL at p
    split at p
    · rename_i n ns hb
      have := intsL_ok rl hb
      subst this
      refine .inr (.inr ⟨a, n :: ns, ex, by rw [hK]; exact h, by simp, fun m h1 h2 => ?_⟩)
      rw [best_min h1 h2]
      exact p.sc s (.int _)
    · exact p.elim
  · exact p.elim
/-- x.bit_length() -/
def opBits (d : D) : FR := match d with
  | .int i => .ok (.int (Builtin.Int.intBits i : Nat)) false
  | _ => .fail
variable {T : Tb} {W : WX} {pos apos : Pos}
theorem se_bits {o : Expr} {f : AS → ER} (ho : PE X o (tE T R W f)) (hbase : attributeBase o "bit_length" X.env (eval o X.env) = eval o X.env := by rfl) (hline : (apos.endLine == pos.line) = true := by rfl) :
    PE X (.Call (.Attribute o "bit_length" apos) [] [] pos) (tE T R W (eU opBits f)) := pe_imp (pe_bits ho hbase hline) fun σ H Q q => by
  have key := u_imp q
  obtain ⟨A, G, s, p⟩ := q
  refine ⟨A, G, s, ?_⟩
  unfold eU at p
  cases q : f A with
  | fail => rw [q] at p; exact p
  | exc c fs A1 => rw [q] at p; exact p
  | ok v A1 =>
    rw [q] at p
    intro x H1 G1 g1 s1 k1 r1
    dsimp only at p
    cases q2 : cont v A1 with
    | none => rw [q2] at p; exact p.elim
    | some d =>
      rw [q2] at p
      dsimp only at p
      have rb := cont_ok s1 r1 q2
      have rn := rn_of s1 g1 k1 p
      unfold opBits at rn
      split at rn
      · exact ⟨_, rb.int, rn.sc s1.step.le (.int _)⟩
      · exact rn.elim

/-! ### isinstance -/
inductive Ty where
  | tint | tbool | ttup | tlst | tstr
def Ty.nm : Ty → String
  | .tint => "int"
  | .tbool => "bool"
  | .ttup => "tuple"
  | .tlst => "list"
  | .tstr => "str"
def tyNm : D → Option String
  | .non => some "NoneType"
  | .bl _ => some "bool"
  | .int _ => some "int"
  | .str _ => some "str"
  | .tup _ => some "tuple"
  | .lst _ => some "list"
  | _ => none
def isa (t : Ty) : D → Option Bool
  | .non => some false
  | .bl _ => some (match t with | .tint => true | .tbool => true | _ => false)
  | .int _ => some (match t with | .tint => true | _ => false)
  | .str _ => some (match t with | .tstr => true | _ => false)
  | .tup _ => some (match t with | .ttup => true | _ => false)
  | .lst _ => some (match t with | .tlst => true | _ => false)
  | _ => none
def opIsa (t : Ty) (d : D) : FR := match isa t d with
  | some b => .ok (.bl b) false
  | none => .fail
def opIsaLT (d : D) : FR := match isa .tlst d with
  | some b => match isa .ttup d with
    | some c => .ok (.bl (b || c)) false
    | none => .fail
  | none => .fail
theorem kitB_ok : ∀ n ∈ ["NoneType", "bool", "int", "str", "tuple", "list"], ∀ m ∈ ["int", "bool", "tuple", "list", "str"], kitB n m = some (n == m || (n == "bool" && m == "int")) := by decide +kernel
theorem isa_ok {K : PySem.W.Frag} {t : Ty} {d : D} {n : String} {b : Bool} (h : isa t d = some b) (e : tyNm d = some n) : PySem.W.kitOne K (.type n) (.type t.nm) = some b := by
  refine kit_ty ?_
  cases d <;> cases t <;> cases e <;> cases h <;> (refine (kitB_ok _ (by decide) _ (by decide)).trans ?_; decide)
theorem isa_ty {t : Ty} {d : D} {b : Bool} (h : isa t d = some b) : ∃ n, tyNm d = some n := by
  cases d <;> cases h <;> exact ⟨_, rfl⟩
theorem tyx_of {K : PySem.W.Frag} {G H : Hp} {d : D} {x : V} {n : String} (s : Same G H) (r : RpB K G H d x) (e : tyNm d = some n) : TyX K H x (.type n) := by
  rcases r with r | ⟨a, ea, w⟩
  · cases r with
    | non => cases e; exact .base .non
    | bl b => cases e; exact .base (.bl b)
    | int b => cases e; exact .base (.int b)
    | str b => cases e; exact .base (.str b)
    | lst h r => cases e; exact .base (.lst (s _ _ h))
    | frl h r => cases e
    | dic h r => cases e
    | tup h r =>
      cases e
      rcases sqT_same s h with (h | ⟨o, h⟩) | ⟨o, its, m, h, hc, _⟩
      · exact .base (.tup h)
      · exact .fTuple h
      · exact .kTuple h hc
  · subst ea
    cases d with
    | lst l => obtain ⟨vs, h, _⟩ := w; cases e; exact .base (.lst h)
    | dic l => cases e
    | _ => exact w.elim
theorem RpB.upd {K : PySem.W.Frag} {G H : Hp} {d : D} {x : V} {p : Addr} {o : HO} (r : RpB K G H d x) (n : H p = none) : RpB K G (upd H p o) d x := by
  rcases r with r | ⟨a, ea, w⟩
  · exact .inl r
  · obtain ⟨u, hu⟩ := w.some
    exact .inr ⟨a, ea, w.mono (Same.refl _) (upd_ne (ne_of_none hu n))⟩
theorem se_isa {e : Expr} {f : AS → ER} {p p2 : Pos} {y : Str} (t : Ty) (hK : X.K = R.K) (hg : Gl X "isinstance") (hm : X.mg "isinstance" = none) (hg2 : Gl X y) (hm2 : X.mg y = none) (hv : bootBuiltins y = some (.type t.nm)) (he : PE X e (tE T R W f)) (hn : y ≠ "__name__" := by decide) (hd : (y == ("__debug__" : Str)) = false := by decide)
    (hst : starEach [e, .Name y p2] X.env = (false, eval e X.env) :: starEach [.Name y p2] X.env := by rfl) :
    PE X (.Call (.Name "isinstance" p) [e, .Name y p2] [] pos) (tE T R W (eU (opIsa t) f)) :=
  pe_imp (pe_callB call_isi hg hm (by rfl) (pa_cons he (pa_cons (pe_bltn (v := .ty t.nm) hg2 hm2 hv rfl hn hd) pa_nil) hst) (he := hst)) fun σ H Q ⟨A, G, s, p⟩ => by
    refine ⟨A, G, s, ?_⟩
    unfold eU at p
    cases q : f A with
    | fail => rw [q] at p; exact p
    | exc c fs A1 => rw [q] at p; exact p
    | ok v A1 =>
      rw [q] at p
      intro x H1 G1 g1 s1 k1 r1
      dsimp only at p
      cases q2 : cont v A1 with
      | none => rw [q2] at p; exact p.elim
      | some d =>
        rw [q2] at p
        dsimp only at p
        have rb := cont_ok s1 r1 q2
        have rn := rn_of s1 g1 k1 p
        unfold opIsa at rn
        split at rn
        · rename_i b hb
          obtain ⟨n, hn⟩ := isa_ty hb
          exact ⟨x, _, _, _, b, rfl, .ty _, by rw [hK]; exact tyx_of s1.step.le rb hn, isa_ok hb hn, rn.sc s1.step.le (.bl _)⟩
        · exact rn.elim
theorem se_isaLT {e : Expr} {f : AS → ER} {p p2 p3 p4 : Pos} {kk : Nat} (hK : X.K = R.K) (hg : Gl X "isinstance") (hm : X.mg "isinstance" = none) (hg2 : Gl X "list") (hm2 : X.mg "list" = none) (hg3 : Gl X "tuple") (hm3 : X.mg "tuple" = none) (he : PE X e (tE T R W f))
    (hst : starEach [e, .Tuple [.Name "list" p2, .Name "tuple" p3] kk p4] X.env = (false, eval e X.env) :: starEach [.Tuple [.Name "list" p2, .Name "tuple" p3] kk p4] X.env := by rfl) :
    PE X (.Call (.Name "isinstance" p) [e, .Tuple [.Name "list" p2, .Name "tuple" p3] kk p4] [] pos) (tE T R W (eU opIsaLT f)) :=
  pe_imp (pe_callB call_isiT hg hm (by rfl) (pa_cons he (pa_cons (pe_tup (pa_cons (pe_bltn (v := .ty "list") (u := .type "list") hg2 hm2 (by rfl) rfl) (pa_cons (pe_bltn (v := .ty "tuple") (u := .type "tuple") hg3 hm3 (by rfl) rfl) pa_nil))) pa_nil) hst) (he := hst)) fun σ H Q ⟨A, G, s, p⟩ => by
    refine ⟨A, G, s, ?_⟩
    unfold eU at p
    cases q : f A with
    | fail => rw [q] at p; exact p
    | exc c fs A1 => rw [q] at p; exact p
    | ok v A1 =>
      rw [q] at p
      intro x H1 G1 g1 s1 k1 r1
      dsimp only at p
      cases q2 : cont v A1 with
      | none => rw [q2] at p; exact p.elim
      | some d =>
        rw [q2] at p
        dsimp only at p
        have rb := cont_ok s1 r1 q2
        have rn := rn_of s1 g1 k1 p
        refine ⟨by show 2 ≤ sizeLine; decide, fun a na => ?_⟩
        unfold opIsaLT at rn
        split at rn
        · rename_i b hb
          split at rn
          · rename_i c hc
            obtain ⟨n, hn⟩ := isa_ty hb
            have hk : PySem.W.kitAny X.K (.type n) [.type "list", .type "tuple"] = some (b || c) := by
              refine kitAny_cons (isa_ok (t := .tlst) hb hn) (fun e => ?_) (fun e => by rw [e]; rfl)
              rw [e]
              refine kitAny_cons (isa_ok (t := .ttup) hc hn) (fun e => ?_) (fun e => by rw [e]; rfl)
              rw [e]
              exact kitAny_nil
            have st := Step.tmp (o := .tup [V.ty "list", V.ty "tuple"]) s1.step.le na
            exact ⟨x, a, _, _, _, _, rfl, upd_same, .cons (.ty _) (.cons (.ty _) .nil), by rw [hK]; exact tyx_of st.le (rb.upd na) hn, hk, rn _ _ _ st (.bl _)⟩
          · exact rn.elim
        · exact rn.elim
end
end MR

namespace MR
open PySem PySem.Spec PyProof.Rows L2

/-! ### an own list is written -/
section
variable {R : Rt} {A : AS} {σ : ST} {H G : Hp}
theorem StOk.wr {i : Nat} {d : D} {a : Addr} {ds : List D} {vs : List V} (s : StOk R A σ H G) (q : sget A i = .ow d) (e : σ[i]? = some (some (.ref a))) (r : RpL R.K G ds vs) : StOk R (sset A i (.ow (.lst ds))) σ (upd H a (.lst vs)) G := by
  have oi : (sget A i).isOwn = true := by rw [q]; rfl
  obtain ⟨g, h0, x, hx⟩ := s.own_none oi e
  have key : ∀ j, (sget (sset A i (.ow (.lst ds))) j).isOwn = true → (sget A j).isOwn = true := fun j h => by
    by_cases c : i = j
    · subst c; exact oi
    · rw [sget_ne _ _ _ _ c] at h; exact h
  refine ⟨⟨fun b o eb => ?_, s.step.sG, fun b o eb => ?_, s.step.new⟩, (sset_len _ _ _).trans s.len, fun j => ?_, fun j k b h1 h2 => s.inj j k b (key j h1) (key k h2)⟩
  · rw [upd_ne (ne_of_none eb h0)]; exact s.step.sH _ _ eb
  · rw [upd_ne (ne_of_none eb g)]; exact s.step.le _ _ eb
  · by_cases c : i = j
    · subst c
      rcases sget_eq A i (.ow (.lst ds)) with z | ⟨z, _⟩
      · rw [z]; exact ⟨a, e, g, h0, vs, upd_same, r⟩
      · rw [z]; trivial
    · rw [sget_ne _ _ _ _ c]
      refine (s.at_ j).mono (Same.refl _) fun b ob eb gb _ => ⟨gb, upd_ne fun z => ?_⟩
      subst z
      exact c (s.inj i j b oi ob e eb)
theorem StOk.own_lst {i : Nat} {ds : List D} {x : V} (s : StOk R A σ H G) (q : sget A i = .ow (.lst ds)) (e : σ[i]? = some (some x)) : ∃ a vs, x = .ref a ∧ H a = some (.lst vs) ∧ RpL R.K G ds vs := by
  have at_ := s.at_ i
  rw [q] at at_
  obtain ⟨a, e1, _, _, vs, h1, h2⟩ := at_
  rw [e] at e1; cases e1
  exact ⟨a, vs, rfl, h1, h2⟩
theorem keep_wr {i : Nat} {d : D} {w : Sl} (q : sget A i = .ow d) : KeepA A (sset A i w) := sset_keepA fun d' z => by rw [q] at z; exact nomatch z
end
section
variable {X : Cx} {T : Tb} {R : Rt} {W : WX} {pos : Pos}
def appTo (i : Nat) (d : D) (A : AS) : SR := match sget A i with
  | .ow (.lst ds) => if ds.length < tooLong then .nx (sset A i (.ow (.lst (ds ++ [d])))) else .fail
  | _ => .fail
def sApp (i : Nat) (f : AS → ER) : AS → SR := fun A => match sget A i with
  | .ow (.lst _) => match f A with
    | .ok v A1 => match settle v A1 with
      | some (d, A2) => appTo i d A2
      | none => .fail
    | .exc c fs A1 => .exc c fs A1
    | .fail => .fail
  | _ => .fail
theorem s_app {i : Nat} {x : Str} {e : Expr} {f : AS → ER} {p ap cp : Pos} (hn : PE X (.Name x p) (tVar i)) (he : PE X e (tE T R W f))
    (hbase : attributeBase (.Name x p) "append" X.env (eval (.Name x p) X.env) = eval (.Name x p) X.env := by rfl) (hline : (ap.endLine == cp.line) = true := by rfl)
    (hst : starEach [e] X.env = [(false, eval e X.env)] := by rfl) (hs : swapsWith (.Call (.Attribute (.Name x p) "append" ap) [e] [] cp) none pos.line X.env = pure false := by rfl) :
    PS X (.Expr (.Call (.Attribute (.Name x p) "append" ap) [e] [] cp) pos) (tS T R W (sApp i f)) :=
  ps_imp (ps_expr (pe_bm PySem.F.plainAttrs_list PySem.F.slot_list_append PySem.F.type_list_append mt_append hn (pa_cons he pa_nil hst) hbase (by rw [hst]; rfl) hline hst (by rfl)) hs) fun D σ H ⟨A, G, s, p⟩ => by
    unfold sApp at p
    split at p
    · rename_i ds0 q0
      have at_ := s.at_ i
      rw [q0] at at_
      obtain ⟨a, ea, _, _, vs0, ha0, _⟩ := at_
      refine ⟨.ref a, ea, .inl ⟨rfl, _, .inl (.inl ha0)⟩, A, G, s, ?_⟩
      cases q : f A with
      | fail => rw [q] at p; exact p
      | exc c fs A1 => rw [q] at p; exact fun cls dx H' G' => p cls dx σ H' G'
      | ok v A1 =>
        rw [q] at p
        intro x1 H1 G1 g1 s1 k1 r1
        dsimp only at p
        cases q2 : settle v A1 with
        | none => rw [q2] at p; exact p.elim
        | some y =>
          obtain ⟨d, A2⟩ := y
          rw [q2] at p
          dsimp only at p
          obtain ⟨G2, g2, s2, r2, k2⟩ := settle_ok s1 r1 q2
          unfold appTo at p
          split at p
          · rename_i ds q3
            split at p
            · rename_i hz
              obtain ⟨a', vs, e', h', rl⟩ := s2.own_lst q3 ea
              cases e'
              refine ⟨a, vs, x1, rfl, rfl, h', by rw [← rl.len, sizeLine_eq]; exact hz, ?_⟩
              have s3 := s2.wr q3 ea (rl.app (.cons r2 .nil))
              exact p σ _ G2 (g1.trans g2) s3 (.of ((k1.trans k2).trans (keep_wr q3)))
            · exact p.elim
          · exact p.elim
    · exact p.elim
def setAt (i : Nat) (k : Int) (d : D) (A : AS) : SR := match sget A i with
  | .ow (.lst ds) => match ixN ds.length k with
    | some j => .nx (sset A i (.ow (.lst (ds.set j d))))
    | none => .fail
  | _ => .fail
/-- xs[k] = e -/
def sSetIx (i : Nat) (fi f : AS → ER) : AS → SR := fun A => match f A with
  | .ok v A1 => match sget A1 i with
    | .ow (.lst _) => match fi A1 with
      | .ok w A2 => match cont w A2 with
        | some (.int k) => match settle (hold v) A2 with
          | some (d, A3) => setAt i k d A3
          | none => .fail
        | _ => .fail
      | .exc c fs A2 => .exc c fs A2
      | .fail => .fail
    | _ => .fail
  | .exc c fs A1 => .exc c fs A1
  | .fail => .fail
theorem s_setIx {i : Nat} {x : Str} {ei e : Expr} {fi f : AS → ER} {p sp : Pos} (hn : PE X (.Name x p) (tVar i)) (hi : PE X ei (tE T R W fi)) (he : PE X e (tE T R W f))
    (ha : ∀ v, assign (.Subscript (.Name x p) ei sp) X.env v = (do
      let ov ← holding [v] (eval (.Name x p) X.env)
      let iv ← holding [v, ov] (eval ei X.env)
      standAt sp
      holding [v, ov, iv] (setItem ov iv v)
      release [v, ov, iv] []) := by intro _; rfl)
    (hs : swapsWithSole [.Subscript (.Name x p) ei sp] e pos.line X.env = pure false := by rfl) (hw : swappedStores [.Subscript (.Name x p) ei sp] e X.env = pure none := by rfl)
    (h1 : (assignEach [.Subscript (.Name x p) ei sp] X.env).map (·.2) = [assign (.Subscript (.Name x p) ei sp) X.env] := by rfl) :
    PS X (.Assign [.Subscript (.Name x p) ei sp] e pos) (tS T R W (sSetIx i fi f)) := ps_imp (ps_asg he (pg_sub hn hi set_list ha) hs hw h1) fun D σ H ⟨A, G, s, p⟩ => by
  refine ⟨A, G, s, ?_⟩
  unfold sSetIx at p
  cases q : f A with
  | fail => rw [q] at p; exact p
  | exc c fs A1 => rw [q] at p; exact fun cls dx H' G' => p cls dx σ H' G'
  | ok v A1 =>
    rw [q] at p
    intro x1 H1 G1 g1 s1 k1 r1
    obtain ⟨G2, g2, s2, r2⟩ := hold_ok s1 r1
    dsimp only at p
    split at p
    · rename_i ds0 q0
      have at_ := s2.at_ i
      rw [q0] at at_
      obtain ⟨a, ea, _, _, vs0, ha0, _⟩ := at_
      refine ⟨.ref a, ea, A1, G2, s2, ?_⟩
      cases q1 : fi A1 with
      | fail => rw [q1] at p; exact p
      | exc c fs A2 => rw [q1] at p; exact fun cls dx H' G' g' => p cls dx σ H' G' ((g1.trans g2).trans g')
      | ok w A2 =>
        rw [q1] at p
        intro y H3 G3 g3 s3 k3 r3
        dsimp only at p
        split at p
        · rename_i k qk
          have ry := (cont_ok s3 r3 qk).int
          split at p
          · rename_i d A3 qd
            obtain ⟨G4, g4, s4, r4, k4⟩ := settle_ok s3 (r2.keep (A' := A2) (H' := H3) (hold_held v) g3) qd
            unfold setAt at p
            split at p
            · rename_i ds q3
              split at p
              · rename_i j hj
                obtain ⟨a', vs, e', h', rl⟩ := s4.own_lst q3 ea
                cases e'
                refine ⟨a, vs, k, j, rfl, ry, h', by rw [← rl.len]; exact hj, ?_⟩
                have s5 := s4.wr q3 ea (rl.set r4 j)
                exact p σ _ G4 (((g1.trans g2).trans g3).trans g4) s5 (.of (((k1.trans k3).trans k4).trans (keep_wr q3)))
              · exact p.elim
            · exact p.elim
          · exact p.elim
        · exact p.elim
    · exact p.elim

/-! ### a, b = x, y -/
def put2 (i j : Nat) (ds : List D) (A : AS) : SR := match ds with
  | [d, e] => match putV i (.fz d) A with
    | some A1 => match putV j (.fz e) A1 with
      | some A2 => .nx A2
      | none => .fail
    | none => .fail
  | _ => .fail
def put3 (i j l : Nat) (ds : List D) (A : AS) : SR := match ds with
  | [d, e, u] => match putV i (.fz d) A with
    | some A1 => match putV j (.fz e) A1 with
      | some A2 => match putV l (.fz u) A2 with
        | some A3 => .nx A3
        | none => .fail
      | none => .fail
    | none => .fail
  | _ => .fail
def sParW (put : List D → AS → SR) (f : AS → AR) : AS → SR := fun A => match f A with
  | .ok vs A1 => match settleL vs A1 with
    | some (ds, A2) => put ds A2
    | none => .fail
  | .exc c fs A1 => .exc c fs A1
  | .fail => .fail
def sPar (i j : Nat) (f : AS → AR) : AS → SR := sParW (put2 i j) f
def sPar3 (i j l : Nat) (f : AS → AR) : AS → SR := sParW (put3 i j l) f
theorem par_imp {put : List D → AS → SR} {f : AS → AR} {D : Ends} {σ : ST} {H : Hp} {Q : List V → Hp → Prop} (h : tS T R W (sParW put f) D σ H)
    (k : ∀ A A' G G' H' ds xs, PostS T R W A G σ D (put ds A') → Same G G' → Keep A σ A' σ → StOk R A' σ H' G' → RpL R.K G' ds xs → Q xs H') : tA T R W f σ H Q := by
  obtain ⟨A, G, s, p⟩ := h
  refine ⟨A, G, s, ?_⟩
  unfold sParW at p
  cases q : f A with
  | fail => rw [q] at p; exact p
  | exc c fs A1 => rw [q] at p; exact fun cls dx H' G' => p cls dx σ H' G'
  | ok vs A1 =>
    rw [q] at p
    intro xs H1 G1 g1 s1 k1 r1
    dsimp only at p
    cases q2 : settleL vs A1 with
    | none => rw [q2] at p; exact p.elim
    | some y =>
      obtain ⟨ds, A2⟩ := y
      rw [q2] at p
      obtain ⟨G2, g2, s2, r2, k2⟩ := settleL_ok s1 r1 q2
      exact k A A2 G G2 H1 ds xs p (g1.trans g2) (.of (k1.trans k2)) s2 r2
theorem s_par {i j : Nat} {x y : Str} {a b : Expr} {f : AS → AR} {px py pt : Pos} {kt k2 pt2} (hc : X.calm = true) (hN : X.N.Nodup) (hi : X.N[i]? = some x) (hj : X.N[j]? = some y) (hij : i ≠ j)
    (hx : X.env.scope.names.lookup x = some .local) (hy : X.env.scope.names.lookup y = some .local) (ha : PA X [a, b] (tA T R W f))
    (hw : swappedStores [.Tuple [.Name x px, .Name y py] kt pt] (.Tuple [a, b] k2 pt2) X.env = pure (some [x, y]))
    (hs : swapsWithSole [.Tuple [.Name x px, .Name y py] kt pt] (.Tuple [a, b] k2 pt2) pos.line X.env = pure false := by rfl) :
    PS X (.Assign [.Tuple [.Name x px, .Name y py] kt pt] (.Tuple [a, b] k2 pt2) pos) (tS T R W (sPar i j f)) :=
  ps_imp (ps_par hc hN hi hj hij hx hy ha hw hs) fun D σ H h => par_imp h fun A A' G G' H' ds xs p g k s r => by
    unfold put2 at p
    split at p
    · rename_i d e
      cases r with
      | cons r1 r =>
        cases r with
        | cons r2 r =>
          cases r
          refine ⟨_, _, rfl, ?_⟩
          split at p
          · rename_i A1 q1
            obtain ⟨G1, g1, s1, k1⟩ := putV_ok (v := .fz d) s r1 q1
            split at p
            · rename_i A2 q2
              obtain ⟨G2, g2, s2, k2⟩ := putV_ok (v := .fz e) s1 (r2.mono g1) q2
              exact p _ _ G2 ((g.trans g1).trans g2) s2 ((k.trans k1).trans k2)
            · exact p.elim
          · exact p.elim
    · exact p.elim
theorem s_par3 {i j l : Nat} {x y z : Str} {a b c : Expr} {f : AS → AR} {px py pz pt : Pos} {kt k2 pt2} (hc : X.calm = true) (hN : X.N.Nodup) (hi : X.N[i]? = some x) (hj : X.N[j]? = some y) (hl : X.N[l]? = some z) (hij : i ≠ j) (hil : i ≠ l) (hjl : j ≠ l)
    (hx : X.env.scope.names.lookup x = some .local) (hy : X.env.scope.names.lookup y = some .local) (hz : X.env.scope.names.lookup z = some .local) (ha : PA X [a, b, c] (tA T R W f))
    (hw : swappedStores [.Tuple [.Name x px, .Name y py, .Name z pz] kt pt] (.Tuple [a, b, c] k2 pt2) X.env = pure (some [x, y, z]))
    (hs : swapsWithSole [.Tuple [.Name x px, .Name y py, .Name z pz] kt pt] (.Tuple [a, b, c] k2 pt2) pos.line X.env = pure false := by rfl) :
    PS X (.Assign [.Tuple [.Name x px, .Name y py, .Name z pz] kt pt] (.Tuple [a, b, c] k2 pt2) pos) (tS T R W (sPar3 i j l f)) :=
  ps_imp (ps_par3 hc hN hi hj hl hij hil hjl hx hy hz ha hw hs) fun D σ H h => par_imp h fun A A' G G' H' ds xs p g k s r => by
    unfold put3 at p
    split at p
    · rename_i d e u
      cases r with
      | cons r1 r =>
        cases r with
        | cons r2 r =>
          cases r with
          | cons r3 r =>
            cases r
            refine ⟨_, _, _, rfl, ?_⟩
            split at p
            · rename_i A1 q1
              obtain ⟨G1, g1, s1, k1⟩ := putV_ok (v := .fz d) s r1 q1
              split at p
              · rename_i A2 q2
                obtain ⟨G2, g2, s2, k2⟩ := putV_ok (v := .fz e) s1 (r2.mono g1) q2
                split at p
                · rename_i A3 q3
                  obtain ⟨G3, g3, s3, k3⟩ := putV_ok (v := .fz u) s2 (r3.mono (g1.trans g2)) q3
                  exact p _ _ G3 (((g.trans g1).trans g2).trans g3) s3 (((k.trans k1).trans k2).trans k3)
                · exact p.elim
              · exact p.elim
            · exact p.elim
    · exact p.elim
/-- a target = e -/
def sAsgT (g : GD) (f : AS → ER) : AS → SR := fun A => match f A with
  | .ok v A1 => match settle v A1 with
    | some (d, A2) => match g d A2 with
      | some A3 => .nx A3
      | none => .fail
    | none => .fail
  | .exc c fs A1 => .exc c fs A1
  | .fail => .fail
theorem s_asgT {tg e : Expr} {g : GD} {wr : List Nat} {f : AS → ER} (he : PE X e (tE T R W f)) (hg : PG X tg (tG R wr g)) (hs : swapsWithSole [tg] e pos.line X.env = pure false := by rfl) (hw : swappedStores [tg] e X.env = pure none := by rfl)
    (h1 : (assignEach [tg] X.env).map (·.2) = [assign tg X.env] := by rfl) : PS X (.Assign [tg] e pos) (tS T R W (sAsgT g f)) := ps_imp (ps_asg he hg hs hw h1) fun D σ H ⟨A, G, s, p⟩ => by
  refine ⟨A, G, s, ?_⟩
  unfold sAsgT at p
  cases q : f A with
  | fail => rw [q] at p; exact p
  | exc c fs A1 => rw [q] at p; exact fun cls dx H' G' => p cls dx σ H' G'
  | ok v A1 =>
    rw [q] at p
    intro x1 H1 G1 g1 s1 k1 r1
    dsimp only at p
    cases q2 : settle v A1 with
    | none => rw [q2] at p; exact p.elim
    | some y =>
      obtain ⟨d, A2⟩ := y
      rw [q2] at p
      dsimp only at p
      obtain ⟨G2, g2, s2, r2, k2⟩ := settle_ok s1 r1 q2
      cases q3 : g d A2 with
      | none => rw [q3] at p; exact p.elim
      | some A3 =>
        rw [q3] at p
        exact ⟨A2, G2, d, A3, s2, r2, q3, fun σ' H' G' g' s' k' _ => p σ' H' G' ((g1.trans g2).trans g') s' ((Keep.of (k1.trans k2)).trans k')⟩
end
end MR

namespace MR
open PySem PySem.Spec PyProof.Rows L2

/-! ### own exception classes of one field -/
/-- what __init__ keeps: self.y = the value -/
def spI (C : Addr) (y : Str) : Sp := fun vs H Q _ => ∃ a v, vs = [.ref a, v] ∧ H a = some (exo a C none) ∧ ∀ dx, H dx = none → dx ≠ a → Q .non (upd (upd H dx (exd dx [(y, v)])) a (exo a C (some dx)))
structure ExcD (P : Program) (w : World) (K : PySem.W.Frag) (mg : Str → Option Value) (base : Heap) (T : Tb) (c : Nat) (x y : Str) : Prop where
  ex : ∃ C fI fd ps, T.cls c = some (C, [y]) ∧ mg x = some (.ref C) ∧ OexC K C ∧ XfC K C ∧ PySem.W.findIn K (.ref C) y = some none ∧ PySem.W.findIn K (.ref C) "__init__" = some (some (.ref fI)) ∧ PySem.W.typeIn K (.ref fI) = some (.type "function") ∧
    FnOk P w K mg base (L2.CX P w) 1 fI fd ps (spI C y) ∧ Binds K fd ps []
theorem passN {X : Cx} : Passes (L2.CX X.prog X.w) X (fun _ _ _ => False) := fun _ _ _ _ _ _ _ h => by
  obtain ⟨_, _, _, _, _, _, _, _, _, _, _, _, z⟩ := h
  exact z.elim
section
variable {X : Cx} {T : Tb} {R : Rt} {W : WX} {pos : Pos}
def sRaise (c : Nat) (f : AS → AR) : AS → SR := fun A => match f A with
  | .ok vs A1 => match settleL vs A1 with
    | some ([d], A2) => .exc c [d] A2
    | _ => .fail
  | .exc c fs A1 => .exc c fs A1
  | .fail => .fail
theorem xd_end {H1 : Hp} {a dx C : Addr} {y : Str} {v : V} (na : H1 a = none) (hd : dx ≠ a) : upd (del (upd (upd (upd H1 a (exo a C none)) dx (exd dx [(y, v)])) a (exo a C (some dx))) a) dx (.xd [(y, v)]) = upd H1 dx (.xd [(y, v)]) := by
  funext b
  by_cases c : b = dx
  · subst c; rw [upd_same, upd_same]
  · rw [upd_ne c, upd_ne c]
    by_cases e : b = a
    · subst e; rw [del_same, na]
    · rw [del_ne e, upd_ne e, upd_ne c, upd_ne e]
theorem s_raise {c : Nat} {x y : Str} {e : Expr} {f : AS → AR} {p cp : Pos} (hK : X.K = R.K) (D : ExcD X.prog X.w X.K X.mg X.base T c x y) (hc : X.calm = true) (tk : Takes X W) (hr : Room 2 X.A) (hg : Gl X x) (ha : PA X [e] (tA T R W f))
    (hdb : (x == ("__debug__" : Str)) = false := by decide) (he : starEach [e] X.env = (false, eval e X.env) :: starEach [] X.env := by rfl) :
    PS X (.Raise (some (.Call (.Name x p) [e] [] cp)) none pos) (tS T R W (sRaise c f)) := by
  obtain ⟨C, fI, fd, ps, h1, h2, h3, h4, h5, h6, h7, h8, h9⟩ := D.ex
  refine ps_imp (ps_raise hc tk (pmk_oex h3 h6 h7 h8 hr h9 .nil passN hg h2 ha hdb he)) fun D σ H ⟨A, G, s, q⟩ => ⟨A, G, s, ?_⟩
  unfold sRaise at q
  cases q1 : f A with
  | fail => rw [q1] at q; exact q
  | exc c fs A1 => rw [q1] at q; exact fun cls dx H' G' => q cls dx σ H' G'
  | ok vs A1 =>
    rw [q1] at q
    intro xs H1 G1 g1 s1 k1 r1
    dsimp only at q
    split at q
    · rename_i d A2 q2
      obtain ⟨G2, g2, s2, r2, k2⟩ := settleL_ok s1 r1 q2
      cases r2 with
      | cons rd rn =>
        cases rn
        rename_i v
        refine ⟨by simp, fun a na => ⟨a, v, by simp, upd_same, fun dx nd hd => ?_⟩⟩
        rw [upd_ne hd] at nd
        refine ⟨rfl, dx, [(y, v)], upd_same, by rw [upd_ne hd, upd_same], nd, ?_⟩
        rw [xd_end na hd]
        have st := Step.tmp (o := .xd [(y, v)]) s2.step.le nd
        exact q _ _ σ _ G2 (g1.trans g2) (s2.next st) ⟨C, [y], dx, [v], h1, rfl, rfl, rfl, upd_same, .cons rd .nil⟩
    · exact q.elim

/-! ### try, several clauses -/
abbrev HdT := Value × Option Nat × (Addr → Value → Option Addr → TS)
def endsN (i : Option Nat) (D : Ends) : Ends := match i with
  | none => D
  | some i => { nx := fun σ H => D.nx (σ.set i none) H, rt := D.rt, bk := fun σ H => D.bk (σ.set i none) H, ct := fun σ H => D.ct (σ.set i none) H }
def slotN (i : Option Nat) (a : Addr) (σ : ST) : ST := match i with
  | none => σ
  | some i => σ.set i (some (.ref a))
def wHd (K : PySem.W.Frag) (Wo : WX) (D : Ends) : List HdT → WX
  | [] => Wo
  | (c, i, ts) :: r => fun cls d σ H => ∃ b, PySem.W.exmOne K cls c = some b ∧ (b = true → ∀ a, H a = none → ts a cls d (endsN i D) (slotN i a σ) H) ∧ (b = false → wHd K Wo D r cls d σ H)
/-- the clauses of the text, their classes, slots and readings -/
inductive HdA (X : Cx) : List ExceptHandler → List HdT → Prop
  | nil : HdA X [] []
  | as {x n : Str} {c : Value} {i : Nat} {ts : Addr → Value → Option Addr → TS} {b₀ : Stmt} {su : List Stmt} {np hp : Pos} {hds : List ExceptHandler} {l : List HdT} (hi : X.N[i]? = some n) (hl : X.env.kindOf n = some .local) (hc : Names X x c)
      (hsu : ∀ (a : Addr) (oe : Obj) (cls : Value) (d : Option Addr) (pn : List (Addr × Obj)), Zc cls d oe → (∃ vs, oe.data = .fields vs) → PSs (X.suite a ((a, oe) :: pn)) (b₀ :: su) (ts a cls d)) (r : HdA X hds l) :
      HdA X (.ExceptHandler (some (.Name x np)) (some n) (b₀ :: su) hp :: hds) ((c, some i, ts) :: l)
  | no {x : Str} {c : Value} {ts : Addr → Value → Option Addr → TS} {b₀ : Stmt} {su : List Stmt} {np hp : Pos} {hds : List ExceptHandler} {l : List HdT} (hc : Names X x c)
      (hsu : ∀ (a : Addr) (oe : Obj) (cls : Value) (d : Option Addr) (pn : List (Addr × Obj)), Zc cls d oe → (∃ vs, oe.data = .fields vs) → PSs (X.suite a ((a, oe) :: pn)) (b₀ :: su) (ts a cls d)) (r : HdA X hds l) :
      HdA X (.ExceptHandler (some (.Name x np)) none (b₀ :: su) hp :: hds) ((c, none, ts) :: l)
theorem names_test {x : Str} {c : Value} {a : Addr} {oe : Obj} {σ : ST} {H : Hp} {s : Shared} {pn : List (Addr × Obj)} {np : Pos} (hc : Names X x c) (S : Inv (X.suite a ((a, oe) :: pn)) [] σ H s) {Q : Value → Shared → Prop} {E : Value → Shared → Prop} (q : Q c s) :
    wpAny (model X.prog X.w) (X.A.mark (some (.ref a))) (eval (.Name x np) X.env) Q E s := by
  obtain ⟨hg, hdb, h | ⟨h, hv, hn⟩⟩ := hc
  · exact ld_glob (X := X.suite a ((a, oe) :: pn)) S hg h q hdb
  · exact ld_blt (X := X.suite a ((a, oe) :: pn)) S hg h hv q hn hdb
/-- an exception that has landed is offered to the clauses -/
theorem offer {pins : List (Addr × Obj)} {σ : ST} {H : Hp} {sI s' : Shared} {D : Ends} {Wo : WX} {a : Addr} {B : Heap} {cls : Value} {d : Option Addr} (hst : X.stack = X.env :: X.outer) (hfr : X.env.frame = some X.env.locals) (hN : X.N.Nodup) (tk : Takes X Wo)
    (J : Inv X pins σ H sI) (nb : ∀ b o, sI.heap.get? b = some o → b ∉ frs X.stack → B.get? b = some o) (os : s'.os = sI.os) (ag : AllBare s'.gens) (na : H a = none) (nL : a ≠ X.env.locals) (nF : a ∉ X.fs) :
    ∀ {hds : List ExceptHandler} {l : List HdT}, HdA X hds l → wHd X.K Wo D l cls d σ H → ∀ {h3 : Heap}, HandSPX.FlyingZ B (X.env :: X.outer) a (Zc cls d) h3 → sI.heap.UpToSlots h3 →
      wpAny (model X.prog X.w) X.A (handleBy (.ref a) X.env hds) (SP X pins D) X.xe { s' with heap := h3 } := by
  intro hds l hk
  induction hk with
  | nil =>
    intro w h3 fl up
    refine wpAny_handleBy_nil ?_
    obtain ⟨oe, vs, he, hz, hd⟩ := fl.there
    obtain ⟨_, _, _, oe, vs, T0, oT, ts', he, hz, hd, h1, hr⟩ := id fl
    unfold PySem.passOn
    refine wpAny_bind (wpAny_field he hd h1 ?_)
    rw [if_neg (by simp : ¬ ((Value.ref T0 == Value.none) = true))]
    have go : wpAny (model X.prog X.w) X.A (setFlight (.ref a) X.env.frame) (fun _ s4 => wpAny (model X.prog X.w) X.A (throw (.ref a) : Sem Flow) (SP X pins D) X.xe s4) X.xe { s' with heap := h3 } := by
      rw [hfr]
      exact HandSPX.setFlight_upZ fl fun h4 hh up4 => wpAny_throw (tk _ _ ⟨a, B, sI, pins, σ, H, cls, d, rfl, J, nb, up.trans up4, .inr (.inr (by rw [hst]; exact hh)), na, os, ag, w⟩)
    first
      | exact wpAny_bind (wpAny_pure (wpAny_bind go))
      | exact wpAny_bind go
  | @as x n c i ts b₀ su np hp hds l hi hl hc hsu r ih =>
    rintro ⟨b, hb, hy, hn⟩ h3 fl up
    have J3 : Inv X pins σ H { s' with heap := h3 } := J.landed nb fl.1 up os ag
    obtain ⟨oe, vs, he, hz, hd⟩ := fl.there
    have S3 := J3.suite he hd na nL nF
    have LT : PySem.W.Looks (model X.prog X.w) h3 (typeOf (.ref a)) cls := fun A Q E s k q => wpAny_typeOf_ref (k _ _ he) (by rw [hz.1]; exact q)
    refine wpAny_handleBy_cons (codeAny_handlers_test ?_) (by intro q; cases q)
    refine names_test hc S3 ((PySem.W.exm_one (M := model X.prog X.w) J3.kIn LT hb).here ?_)
    cases b with
    | false => exact ih (hn rfl) fl up
    | true =>
      refine codeAny_handlers_suite_as (HandSPX.lands_againZ fl fun h4 fl4 up4 => ?_)
      have J4 : Inv X pins σ H { s' with heap := h4 } := J.landed nb fl4.1 (up.trans up4) os ag
      obtain ⟨o4, vs4, he4, hz4, hd4⟩ := fl4.there
      have S4 := J4.suite he4 hd4 na nL nF
      refine store_ok (X := X.suite a ((a, o4) :: (X.pn ++ pins))) (v := .ref a) S4 hN hi (.inl hl) rfl (fun s5 S5 => ?_) (.inr hl)
      refine wpAny_mono ((hsu a o4 cls d (X.pn ++ pins) hz4 ⟨_, hd4⟩).run [] s5 _ H _ S5 (hy rfl a na)) (fun f s6 out => ?_) (fun _ _ z => z.elim)
      have bye : ∀ {τ : ST} {H6 : Hp} {Q : Shared → Prop}, Inv (X.suite a ((a, o4) :: (X.pn ++ pins))) [] τ H6 s6 → (∀ s7, Inv X pins (τ.set i none) H6 s7 → Q s7) →
          wpAny (model X.prog X.w) X.A (do bindName X.env n .none; unbindBehindTheSuite X.env n hp) (fun _ s7 => Q s7) X.xe s6 := fun {τ H6 Q} S6 h => gone_ok (S6.unsuite J.ok) hN hi hl h
      cases f with
      | next => obtain ⟨τ, H6, S6, q⟩ := out; exact bye S6 fun s7 J7 => ⟨_, _, J7, q⟩
      | brk => obtain ⟨τ, H6, S6, q⟩ := out; exact bye S6 fun s7 J7 => ⟨_, _, J7, q⟩
      | cont => obtain ⟨τ, H6, S6, q⟩ := out; exact bye S6 fun s7 J7 => ⟨_, _, J7, q⟩
      | ret u => obtain ⟨v, τ, H6, S6, rv, q⟩ := out; exact bye S6 fun s7 J7 => ⟨_, _, _, J7, rv, q⟩
  | @no x c ts b₀ su np hp hds l hc hsu r ih =>
    rintro ⟨b, hb, hy, hn⟩ h3 fl up
    have J3 : Inv X pins σ H { s' with heap := h3 } := J.landed nb fl.1 up os ag
    obtain ⟨oe, vs, he, hz, hd⟩ := fl.there
    have S3 := J3.suite he hd na nL nF
    have LT : PySem.W.Looks (model X.prog X.w) h3 (typeOf (.ref a)) cls := fun A Q E s k q => wpAny_typeOf_ref (k _ _ he) (by rw [hz.1]; exact q)
    refine wpAny_handleBy_cons (codeAny_handlers_test ?_) (by intro q; cases q)
    refine names_test hc S3 ((PySem.W.exm_one (M := model X.prog X.w) J3.kIn LT hb).here ?_)
    cases b with
    | false => exact ih (hn rfl) fl up
    | true =>
      refine codeAny_handlers_suite (HandSPX.lands_againZ fl fun h4 fl4 up4 => ?_)
      have J4 : Inv X pins σ H { s' with heap := h4 } := J.landed nb fl4.1 (up.trans up4) os ag
      obtain ⟨o4, vs4, he4, hz4, hd4⟩ := fl4.there
      have S4 := J4.suite he4 hd4 na nL nF
      refine wpAny_mono ((hsu a o4 cls d (X.pn ++ pins) hz4 ⟨_, hd4⟩).run [] _ _ H _ S4 (hy rfl a na)) (fun f s6 out => ?_) (fun _ _ z => z.elim)
      cases f with
      | next => obtain ⟨τ, H6, S6, q⟩ := out; exact ⟨_, _, S6.unsuite J.ok, q⟩
      | brk => obtain ⟨τ, H6, S6, q⟩ := out; exact ⟨_, _, S6.unsuite J.ok, q⟩
      | cont => obtain ⟨τ, H6, S6, q⟩ := out; exact ⟨_, _, S6.unsuite J.ok, q⟩
      | ret u => obtain ⟨v, τ, H6, S6, rv, q⟩ := out; exact ⟨_, _, _, S6.unsuite J.ok, rv, q⟩
theorem ps_tryA {body : List Stmt} {h₀ : ExceptHandler} {hds : List ExceptHandler} {l : List HdT} {tb : WX → TS} {Wo : WX} (hst : X.stack = X.env :: X.outer) (hfr : X.env.frame = some X.env.locals) (hN : X.N.Nodup) (tk : Takes X Wo)
    (hb : ∀ (W : WX) (pn : List (Addr × Obj)) (xe : Value → Shared → Prop), Takes (X.tr pn xe) W → PassesOwn (model X.prog X.w) X.A X.env xe → PSs (X.tr pn xe) body (tb W))
    (hh : HdA X (h₀ :: hds) l) : PS X (.Try body (h₀ :: hds) [] [] pos) (fun D σ H => tb (wHd X.K Wo D l) D σ H) := ⟨fun pins s σ H D I h => by
  have frm : X.A.frames = some (X.env :: X.outer) := by rw [I.ok.frames, hst]
  refine wpAny_Try_except (wpAny_mono ((hb (wHd X.K Wo D l) (X.pn ++ pins) (fun e s₁ => wpAny (model X.prog X.w) X.A (noteFrame e X.env) (fun _ s₂ => wpAny (model X.prog X.w) X.A (setFlight e none) (fun _ s₃ =>
    wpAny (model X.prog X.w) X.A (handleBy e X.env (h₀ :: hds)) (SP X pins D) X.xe s₃) X.xe s₂) X.xe s₁) (fun u s' out => ?_) PassesOwn.looking).run [] s σ H D (I.toTry _) h) (fun f s1 out => ?_) fun e s1 he => he)
  · obtain ⟨a, B, sI, pins', σ', H', cls, d, rfl, J', nb, up, sky, na, os, ag, w⟩ := out
    have J : Inv X pins σ' H' sI := J'.ofTry I.ok
    rw [show (X.tr (X.pn ++ pins) _).stack = X.stack from rfl, hst] at sky
    show wpAny (model X.prog X.w) X.A (noteFrame (.ref a) X.env) _ _ _
    refine Sky.land Zc.steady frm hfr sky fun h3 fl up3 => ?_
    obtain ⟨oe, vs, he, hz, hd⟩ := fl.there
    have nfr : a ∉ frs (X.env :: X.outer) := fun hm => by
      obtain ⟨_, o, e, hnf⟩ := fl.2.2.1.mem hm
      rw [he] at e; cases e
      exact hnf _ hd
    refine offer hst hfr hN tk J nb os ag na (fun z => nfr (List.mem_filterMap.mpr ⟨X.env, List.mem_cons_self, by rw [hfr, z]⟩)) (fun hm => ?_) hh w fl (up.trans up3)
    obtain ⟨e, he, q⟩ := List.mem_filterMap.mp hm
    exact nfr (List.mem_filterMap.mpr ⟨e, List.mem_cons_of_mem _ he, q⟩)
  · cases f with
    | next => obtain ⟨τ, H', J', q⟩ := out; exact wpAny_execs_nil ⟨τ, H', J'.ofTry I.ok, q⟩
    | brk => obtain ⟨τ, H', J', q⟩ := out; exact ⟨τ, H', J'.ofTry I.ok, q⟩
    | cont => obtain ⟨τ, H', J', q⟩ := out; exact ⟨τ, H', J'.ofTry I.ok, q⟩
    | ret u => obtain ⟨v, τ, H', J', r, q⟩ := out; exact ⟨v, τ, H', J'.ofTry I.ok, r, q⟩⟩
end
end MR

namespace MR
open PySem PySem.Spec PyProof.Rows L2

/-! ### the suites of a try -/
def unX1 : Sl → Sl
  | .xn _ _ => .un
  | s => s
def unX : AS → AS
  | [] => []
  | s :: r => unX1 s :: unX r
theorem unX_get : ∀ (A : AS) (i : Nat), sget (unX A) i = unX1 (sget A i)
  | [], _ => rfl
  | _ :: _, 0 => rfl
  | _ :: r, i + 1 => unX_get r i
theorem unX_len : ∀ A : AS, (unX A).length = A.length
  | [] => rfl
  | _ :: r => by simp [unX, unX_len r]
theorem unX1_own (s : Sl) : (unX1 s).isOwn = s.isOwn := by cases s <;> rfl
def noLk : AS → Bool
  | [] => true
  | .lk _ :: _ => false
  | _ :: r => noLk r
theorem noLk_get : ∀ {A : AS}, noLk A = true → ∀ i d, sget A i ≠ .lk d
  | [], _, i, d, e => by cases e
  | .un :: r, h, 0, d, e => by cases e
  | .fz _ :: r, h, 0, d, e => by cases e
  | .ow _ :: r, h, 0, d, e => by cases e
  | .xn _ _ :: r, h, 0, d, e => by cases e
  | .un :: r, h, i + 1, d, e => noLk_get (A := r) h i d e
  | .fz _ :: r, h, i + 1, d, e => noLk_get (A := r) h i d e
  | .ow _ :: r, h, i + 1, d, e => noLk_get (A := r) h i d e
  | .xn _ _ :: r, h, i + 1, d, e => noLk_get (A := r) h i d e
def entA (i : Option Nat) (c : Nat) (fs : List D) (A : AS) : AS := match i with
  | none => A
  | some i => sset A i (.xn c fs)
def extA (i : Option Nat) (A : AS) : AS := match i with
  | none => unX A
  | some i => unX (sset A i .un)
def extR (i : Option Nat) : SR → SR
  | .nx A => .nx (extA i A)
  | .bk A => .bk (extA i A)
  | .ct A => .ct (extA i A)
  | .rt d o => .rt d o
  | _ => .fail
abbrev Cl := Nat × Option Nat × (AS → SR)
def hand (ex : Nat → Nat → Option Bool) (c : Nat) (fs : List D) : List Cl → AS → SR
  | [], A => .exc c fs A
  | (j, i, su) :: r, A => match ex c j with
    | some true => extR i (su (entA i c fs (unX A)))
    | some false => hand ex c fs r A
    | none => .fail
def sTry (ex : Nat → Nat → Option Bool) (f : AS → SR) (hs : List Cl) : AS → SR := fun A => match noLk A with
  | true => match f A with
    | .exc c fs A1 => hand ex c fs hs A1
    | r => r
  | false => .fail
/-- the ground of a suite -/
def XH (T : Tb) (R' : Rt) (cls : Value) (d : Option Addr) : Prop := ∃ C ns dx vs, T.cls R'.xc = some (C, ns) ∧ cls = .ref C ∧ d = some dx ∧ ns.length = R'.xf.length ∧ R'.H0 dx = some (.xd (ns.zip vs)) ∧ RpL R'.K R'.G0 R'.xf vs
def tSu (T : Tb) (K : PySem.W.Frag) (su : AS → SR) : Addr → Value → Option Addr → TS := fun a cls d D σ H => ∃ R' : Rt, R'.K = K ∧ R'.xa = a ∧ XH T R' cls d ∧ tS T R' W0 su D σ H
inductive HsOk (K : PySem.W.Frag) (T : Tb) (ex : Nat → Nat → Option Bool) : List Cl → List HdT → Prop
  | nil : HsOk K T ex [] []
  | cons {j : Nat} {i : Option Nat} {su : AS → SR} {cv : Value} {hs : List Cl} {l : List HdT} (h : ∀ c C ns b, T.cls c = some (C, ns) → ex c j = some b → PySem.W.exmOne K (.ref C) cv = some b) (r : HsOk K T ex hs l) : HsOk K T ex ((j, i, su) :: hs) ((cv, i, tSu T K su) :: l)
section
variable {R : Rt} {A : AS} {σ : ST} {H G : Hp}
theorem StOk.unX (s : StOk R A σ H G) : StOk R (unX A) σ H G := by
  have key : ∀ j, (sget (MR.unX A) j).isOwn = true → (sget A j).isOwn = true := fun j h => by rw [unX_get, unX1_own] at h; exact h
  refine ⟨s.step, (unX_len A).trans s.len, fun i => ?_, fun i j a h1 h2 => s.inj i j a (key i h1) (key j h2)⟩
  have at_ := s.at_ i
  rw [unX_get]
  cases q : sget A i with
  | xn c fs => trivial
  | un => trivial
  | fz d => rw [q] at at_; exact at_
  | ow d => rw [q] at at_; exact at_
  | lk d => rw [q] at at_; exact at_
def Rt.su (R : Rt) (G : Hp) (dx : Addr) (o : HO) (a : Addr) (c : Nat) (fs : List D) : Rt := ⟨R.K, G, upd R.H0 dx o, a, c, fs⟩
theorem su_in {dx a : Addr} {l : List (Str × V)} {c : Nat} {fs : List D} (s : StOk R A σ H G) (hd : H dx = some (.xd l)) (i : Option Nat) : StOk (R.su G dx (.xd l) a c fs) (entA i c fs (unX A)) (slotN i a σ) H G := by
  have s1 := s.unX
  have base : StOk (R.su G dx (.xd l) a c fs) (unX A) σ H G := by
    refine ⟨⟨fun b x e => ?_, Same.refl _, s.step.le, fun b h => .inl h⟩, s1.len, fun j => ?_, s1.inj⟩
    · have e : upd R.H0 dx (.xd l) b = some x := e
      by_cases z : b = dx
      · subst z; rw [upd_same] at e; cases e; exact hd
      · rw [upd_ne z] at e; exact s.step.sH _ _ e
    · have at_ := s1.at_ j
      have ne : ∀ b d, R.H0 b = none → OwnAt R.K G H b d → upd R.H0 dx (.xd l) b = none := fun b d h w => by
        have z : b ≠ dx := fun z => by
          subst z
          cases d with
          | lst ds => obtain ⟨vs, h1, _⟩ := w; rw [hd] at h1; cases h1
          | dic ds => obtain ⟨vs, h1, _⟩ := w; rw [hd] at h1; cases h1
          | _ => exact w.elim
        rw [upd_ne z]; exact h
      cases q : sget (MR.unX A) j with
      | un => trivial
      | xn c fs => rw [unX_get] at q; cases q2 : sget A j <;> rw [q2] at q <;> cases q
      | fz d => rw [q] at at_; exact at_
      | ow d => rw [q] at at_; obtain ⟨b, e, g, h0, w⟩ := at_; exact ⟨b, e, g, ne b d h0 w, w⟩
      | lk d => rw [q] at at_; obtain ⟨b, e, g, h0, w⟩ := at_; exact ⟨b, e, g, ne b d h0 w, w⟩
  cases i with
  | none => exact base
  | some i => exact base.put ⟨rfl, rfl, rfl⟩ fun a o => nomatch o
theorem su_out {dx a : Addr} {o : HO} {c : Nat} {fs : List D} {A2 : AS} {σ2 : ST} {H2 G2 : Hp} (st : Step R.G0 R.H0 G H) (s : StOk (R.su G dx o a c fs) A2 σ2 H2 G2) (hd : H dx = some o) (i : Option Nat) :
    StOk R (extA i A2) (match i with | none => σ2 | some i => σ2.set i none) H2 G2 := by
  have h0 : ∀ b, upd R.H0 dx o b = none → R.H0 b = none := fun b h => by
    by_cases z : b = dx
    · subst z; rw [upd_same] at h; cases h
    · rw [upd_ne z] at h; exact h
  have step2 : Step R.G0 R.H0 G2 H2 := by
    refine ⟨fun b x e => ?_, st.sG.trans s.step.sG, s.step.le, fun b h => ?_⟩
    · refine s.step.sH b x ?_
      show upd R.H0 dx o b = some x
      by_cases z : b = dx
      · subst z; rw [upd_same, ← hd]; exact st.sH _ _ e
      · rw [upd_ne z]; exact e
    · rcases s.step.new b h with h | h
      · exact st.new b h
      · exact .inr (h0 b h)
  have base : StOk R (MR.unX A2) σ2 H2 G2 := by
    have key : ∀ j, (sget (MR.unX A2) j).isOwn = true → (sget A2 j).isOwn = true := fun j h => by rw [unX_get, unX1_own] at h; exact h
    refine ⟨step2, (unX_len A2).trans s.len, fun j => ?_, fun i j b h1 h2 => s.inj i j b (key i h1) (key j h2)⟩
    have at_ := s.at_ j
    rw [unX_get]
    cases q : sget A2 j with
    | un => trivial
    | xn c fs => trivial
    | fz d => rw [q] at at_; exact at_
    | ow d => rw [q] at at_; obtain ⟨b, e, g, z, w⟩ := at_; exact ⟨b, e, g, h0 b z, w⟩
    | lk d => rw [q] at at_; obtain ⟨b, e, g, z, w⟩ := at_; exact ⟨b, e, g, h0 b z, w⟩
  cases i with
  | none => exact base
  | some i =>
    have key : ∀ j, j ≠ i → sget (MR.unX (sset A2 i .un)) j = sget (MR.unX A2) j ∧ (σ2.set i none)[j]? = σ2[j]? := fun j hj => ⟨by rw [unX_get, unX_get, sget_ne _ _ _ _ (Ne.symm hj)], List.getElem?_set_ne (Ne.symm hj)⟩
    have at_i : sget (MR.unX (sset A2 i .un)) i = .un := by
      rw [unX_get]
      rcases sget_eq A2 i .un with z | ⟨z, _⟩ <;> rw [z] <;> rfl
    refine ⟨step2, by rw [extA, unX_len, sset_len, List.length_set]; exact s.len, fun j => ?_, fun j k b h1 h2 e1 e2 => ?_⟩
    · show SlOk R G2 H2 (sget (MR.unX (sset A2 i .un)) j) (σ2.set i none)[j]?
      by_cases c : j = i
      · subst c; rw [at_i]; trivial
      · rw [(key j c).1, (key j c).2]; exact base.at_ j
    · have h1 : (sget (MR.unX (sset A2 i .un)) j).isOwn = true := h1
      have h2 : (sget (MR.unX (sset A2 i .un)) k).isOwn = true := h2
      have c1 : j ≠ i := fun c => by subst c; rw [at_i] at h1; exact nomatch h1
      have c2 : k ≠ i := fun c => by subst c; rw [at_i] at h2; exact nomatch h2
      rw [(key j c1).1] at h1
      rw [(key k c2).1] at h2
      rw [show (match some i with | none => σ2 | some i => σ2.set i none) = σ2.set i none from rfl] at e1 e2
      rw [(key j c1).2] at e1
      rw [(key k c2).2] at e2
      exact base.inj j k b h1 h2 e1 e2
end
section
variable {X : Cx} {T : Tb} {R : Rt} {W : WX} {pos : Pos}
theorem vf_out {R' : Rt} {G H' : Hp} {d : D} {own : Bool} {z : V} (hK : R'.K = R.K) (h0 : ∀ b, R'.H0 b = none → R.H0 b = none) (v : VF R'.K G R'.H0 H' d own z) : VF R.K G R.H0 H' d own z := by
  cases own with
  | false => rw [← hK]; exact v
  | true =>
    obtain ⟨a, e, h, g, w⟩ := v
    exact ⟨a, e, h0 a h, g, by rw [← hK]; exact w⟩
theorem hand_ok {ex : Nat → Nat → Option Bool} {A : AS} {G : Hp} {σ : ST} {D : Ends} (nl : noLk A = true) {c : Nat} {fs : List MR.D} {A1 : AS} {cls : Value} {d : Option Addr} {σ' : ST} {H' G' : Hp} (g : Same G G') (s : StOk R A1 σ' H' G') (xr : XR T R.K G' H' c fs cls d) :
    ∀ {hs : List Cl} {l : List HdT}, HsOk R.K T ex hs l → PostS T R W A G σ D (hand ex c fs hs A1) → wHd R.K W D l cls d σ' H' := by
  intro hs l h
  induction h with
  | nil => intro p; exact p cls d σ' H' G' g s xr
  | @cons j i su cv hs l hx r ih =>
    intro p
    unfold hand at p
    obtain ⟨C, ns, dx, vs, hC, ecls, ed, hl, hdx, rl⟩ := id xr
    subst ecls ed
    cases q : ex c j with
    | none => rw [q] at p; exact p.elim
    | some b =>
      rw [q] at p
      refine ⟨b, hx c C ns b hC q, fun e a na => ?_, fun e => ?_⟩
      · subst e
        dsimp only at p
        refine ⟨R.su G' dx (.xd (ns.zip vs)) a c fs, rfl, rfl, ⟨C, ns, dx, vs, hC, rfl, rfl, hl, upd_same, rl⟩, entA i c fs (unX A1), G', su_in s hdx i, ?_⟩
        have kp : ∀ (A' : AS) (σ'' : ST), Keep A σ A' σ'' := fun _ _ k d e => absurd e (noLk_get nl k d)
        have h0 : ∀ b, (R.su G' dx (.xd (ns.zip vs)) a c fs).H0 b = none → R.H0 b = none := fun b h => by
          have h : upd R.H0 dx _ b = none := h
          by_cases z : b = dx
          · subst z; rw [upd_same] at h; cases h
          · rw [upd_ne z] at h; exact h
        cases q2 : su (entA i c fs (unX A1)) with
        | fail => rw [q2] at p; exact p.elim
        | exc c2 fs2 A2 => rw [q2] at p; exact p.elim
        | nx A2 =>
          rw [q2] at p
          intro σ2 H2 G2 g2 s2 k2
          have so := su_out s.step s2 hdx i
          cases i with
          | none => exact p _ _ _ (g.trans g2) so (kp _ _)
          | some i => exact p _ _ _ (g.trans g2) so (kp _ _)
        | bk A2 =>
          rw [q2] at p
          intro σ2 H2 G2 g2 s2 k2
          have so := su_out s.step s2 hdx i
          cases i with
          | none => exact p _ _ _ (g.trans g2) so (kp _ _)
          | some i => exact p _ _ _ (g.trans g2) so (kp _ _)
        | ct A2 =>
          rw [q2] at p
          intro σ2 H2 G2 g2 s2 k2
          have so := su_out s.step s2 hdx i
          cases i with
          | none => exact p _ _ _ (g.trans g2) so (kp _ _)
          | some i => exact p _ _ _ (g.trans g2) so (kp _ _)
        | rt d o =>
          rw [q2] at p
          intro z H2 G2 st vf
          have st2 : Step R.G0 R.H0 G2 H2 := by
            refine ⟨fun b x e => st.sH b x ?_, s.step.sG.trans st.sG, st.le, fun b h => ?_⟩
            · show upd R.H0 dx _ b = some x
              by_cases z : b = dx
              · subst z; rw [upd_same, ← hdx]; exact s.step.sH _ _ e
              · rw [upd_ne z]; exact e
            · rcases st.new b h with h | h
              · exact s.step.new b h
              · exact .inr (h0 b h)
          have vf2 := vf_out (R := R) (R' := R.su G' dx (.xd (ns.zip vs)) a c fs) rfl h0 vf
          cases i with
          | none => exact p z H2 G2 st2 vf2
          | some i => exact p z H2 G2 st2 vf2
      · subst e
        exact ih p
theorem s_try {ex : Nat → Nat → Option Bool} {body : List Stmt} {h₀ : ExceptHandler} {hds : List ExceptHandler} {f : AS → SR} {hs : List Cl} {l : List HdT} (hK : X.K = R.K) (hst : X.stack = X.env :: X.outer) (hfr : X.env.frame = some X.env.locals) (hN : X.N.Nodup) (tk : Takes X W)
    (hb : ∀ (W' : WX) (pn : List (Addr × Obj)) (xe : Value → Shared → Prop), Takes (X.tr pn xe) W' → PassesOwn (model X.prog X.w) X.A X.env xe → PSs (X.tr pn xe) body (tS T R W' f))
    (hh : HdA X (h₀ :: hds) l) (hx : HsOk X.K T ex hs l) : PS X (.Try body (h₀ :: hds) [] [] pos) (tS T R W (sTry ex f hs)) :=
  ps_imp (ps_tryA (tb := fun W' => tS T R W' f) hst hfr hN tk hb hh) fun D σ H ⟨A, G, s, p⟩ => by
    refine ⟨A, G, s, ?_⟩
    unfold sTry at p
    split at p
    · rename_i nl
      rw [hK] at hx ⊢
      cases q : f A with
      | exc c fs A1 => rw [q] at p; exact fun cls d σ' H' G' g s' xr => hand_ok nl g s' xr hx p
      | fail => rw [q] at p; exact p
      | nx A1 => rw [q] at p; exact p
      | bk A1 => rw [q] at p; exact p
      | ct A1 => rw [q] at p; exact p
      | rt d o => rw [q] at p; exact p
    · exact p.elim
theorem tsu_of {a : Addr} {oe : Obj} {cls : Value} {d : Option Addr} {pn : List (Addr × Obj)} {su : List Stmt} {f : AS → SR} {K : PySem.W.Frag} (h : ∀ R' : Rt, R'.K = K → R'.xa = a → XH T R' cls d → PSs (X.suite a ((a, oe) :: pn)) su (tS T R' W0 f)) : PSs (X.suite a ((a, oe) :: pn)) su (tSu T K f a cls d) :=
  ⟨fun pins s σ H D I ⟨R', h1, h2, h3, q⟩ => (h R' h1 h2 h3).run pins s σ H D I q⟩
/-- e.y in a suite -/
def eFld (cs : List Nat) (i : Nat) : AS → ER := fun A => match sget A i with
  | .xn c [d] => if cs.contains c then .ok (.fz d) A else .fail
  | _ => .fail
theorem se_fld {a : Addr} {oe : Obj} {cls : Value} {d : Option Addr} {pn : List (Addr × Obj)} {x y : Str} {p : Pos} {i : Nat} {R' : Rt} (cs : List Nat) (hx : R'.xa = a) (xh : XH T R' cls d) (hz : Zc cls d oe) (hf : ∃ vs, oe.data = .fields vs)
    (hcs : ∀ c ∈ cs, ∃ C, T.cls c = some (C, [y]) ∧ XfC X.K C ∧ PySem.W.findIn X.K (.ref C) y = some none) (hn : PE (X.suite a ((a, oe) :: pn)) (.Name x p) (tVar i)) (hb : attributeBase (.Name x p) y X.env (eval (.Name x p) X.env) = eval (.Name x p) X.env := by rfl) :
    PE (X.suite a ((a, oe) :: pn)) (.Attribute (.Name x p) y pos) (tE T R' W (eFld cs i)) := by
  by_cases hc : R'.xc ∈ cs
  · obtain ⟨C, h1, h2, h3⟩ := hcs _ hc
    refine pe_imp (pe_xf h2 h3 hz hf hn hb) fun σ H Q ⟨A, G, s, q⟩ => ?_
    have at_ := s.at_ i
    unfold eFld at q
    split at q
    · rename_i c v hs
      rw [hs] at at_
      obtain ⟨e1, e2, e3⟩ := at_
      split at q
      · obtain ⟨C', ns, dx, vs, k1, k2, k3, k4, k5, k6⟩ := xh
        rw [h1] at k1; cases k1
        rw [← e3] at k6
        cases k6 with
        | cons rv rn =>
          cases rn
          rename_i vv
          refine ⟨.ref a, by rw [e1, hx], rfl, k2, dx, _, vv, k3, s.step.sH _ _ k5, by simp [List.zip, List.lookup], ?_⟩
          exact q vv H G (Same.refl _) s (KeepA.refl _) (rv.mono s.step.sG)
      · exact q.elim
    · exact q.elim
  · refine ⟨fun pins s0 σ H Q I ⟨A, G, s, q⟩ => ?_⟩
    exfalso
    have at_ := s.at_ i
    unfold eFld at q
    split at q
    · rename_i c v hs
      rw [hs] at at_
      obtain ⟨e1, e2, e3⟩ := at_
      split at q
      · rename_i hm
        rw [List.contains_iff_mem] at hm
        rw [e2] at hm
        exact hc hm
      · exact q
    · exact q

/-! ### defs -/
def outF : SR → FR
  | .nx _ => .ok .non false
  | .rt d own => .ok d own
  | .exc c fs _ => .exc c fs
  | _ => .fail
def inA (m : Nat) (ds : List D) : AS := ds.map Sl.fz ++ List.replicate (m - ds.length) .un
def mkF (m : Nat) (g : AS → SR) : List D → FR := fun ds => outF (g (inA m ds))
structure DefOk (P : Program) (w : World) (K : PySem.W.Frag) (mg : Str → Option Value) (base : Heap) (T : Tb) (k : Nat) (x : Str) (n : Nat) (F : List D → FR) : Prop where
  ex : ∃ f fd ps, FnOk P w K mg base (L2.CX P w) k f fd ps (spF T K n F) ∧ mg x = some (.ref f) ∧ PySem.W.keepIn K (.ref f) = true ∧ Binds K fd ps []
theorem sget_fz : ∀ {ds : List D} {i : Nat} {m : Nat}, sget (ds.map Sl.fz ++ List.replicate m .un) i = match ds[i]? with | some d => .fz d | none => .un
  | [], i, 0 => rfl
  | [], 0, m + 1 => rfl
  | [], i + 1, m + 1 => by simpa [List.replicate_succ, sget] using sget_fz (ds := []) (i := i) (m := m)
  | d :: ds, 0, m => rfl
  | d :: ds, i + 1, m => by simpa [sget] using sget_fz (ds := ds) (i := i) (m := m)
theorem start_ok {K : PySem.W.Frag} {G H : Hp} {N : List Str} {ds : List D} {vs : List V} {a : Addr} {c : Nat} {fs : List D} (sm : Same G H) (r : RpL K G ds vs) : StOk ⟨K, G, H, a, c, fs⟩ (inA N.length ds) (L2.start N vs) H G := by
  refine ⟨Step.refl sm, by simp [inA, L2.start, r.len], fun i => ?_, fun i j b oi => ?_⟩
  · unfold inA
    rw [sget_fz]
    cases q : ds[i]? with
    | none => trivial
    | some d =>
      obtain ⟨v, e, rv⟩ := r.getD q
      refine ⟨v, ?_, rv⟩
      have hi : i < vs.length := (List.getElem?_eq_some_iff.mp e).1
      unfold L2.start
      rw [List.getElem?_append_left (by simpa using hi), List.getElem?_map, e]
      rfl
  · unfold inA at oi
    rw [sget_fz] at oi
    cases q : ds[i]? with
    | none => rw [q] at oi; exact nomatch oi
    | some d => rw [q] at oi; exact nomatch oi
theorem def_fn {P : Program} {w : World} {K : PySem.W.Frag} {mg : Str → Option Value} {base : Heap} {T : Tb} {x qual : Str} {st : Stmt} {f : Addr} {fd : FuncData} {N ps : List Str} {k n : Nat} {g : AS → SR} (Fn : Fun K x qual st f fd) (S : FnScope N ps (defScope st)) (hn : ps.length = n)
    (hb : ∀ (cdv : Value) (A : Around) (outer : List Env) (s : Shared) (H : Hp) (E : XK) (R : Rt), R.K = K → Room k (A.deeper (envOfC qual (defScope st) s.heap.objs.size f cdv)) → PSs (cxOf (L2.CX P w) P w K mg base N qual (defScope st) f cdv A outer s H E) (defBody st) (tS T R (fun cls d _ H => E cls d H) g)) :
    FnOk P w K mg base (L2.CX P w) (k + 1) f fd ps (spF T K n (mkF N.length g)) := by
  refine Fn.okX S (fun vs H Q E h => h.1.trans hn.symm) fun cdv A outer s H vs Q E hr h => ?_
  obtain ⟨hl, G, ds, sm, rl, res⟩ := h
  refine ⟨_, hb cdv A outer s H E ⟨K, G, H, 0, 0, []⟩ rfl hr, inA N.length ds, G, start_ok sm rl, ?_⟩
  unfold mkF at res
  cases q : g (inA N.length ds) with
  | fail => rw [q] at res; exact res
  | bk _ => rw [q] at res; exact res.elim
  | ct _ => rw [q] at res; exact res.elim
  | nx A1 => rw [q] at res; exact fun σ' H' G' g' s' k' => res .non H' G' s'.step .non
  | rt d own => rw [q] at res; exact fun z H' G' st' vf => res z H' G' st' vf
  | exc c fs A1 => rw [q] at res; exact fun cls dx σ' H' G' g' s' xr => res cls dx H' G' s'.step xr
theorem def_ok {P : Program} {w : World} {K : PySem.W.Frag} {mg : Str → Option Value} {base : Heap} {T : Tb} {x qual : Str} {st : Stmt} {f : Addr} {fd : FuncData} {N ps : List Str} {k n : Nat} {g : AS → SR} (Fn : Fun K x qual st f fd) (S : FnScope N ps (defScope st)) (hn : ps.length = n)
    (hmg : mg x = some (.ref f)) (bd : Binds K fd ps [])
    (hb : ∀ (cdv : Value) (A : Around) (outer : List Env) (s : Shared) (H : Hp) (E : XK) (R : Rt), R.K = K → Room k (A.deeper (envOfC qual (defScope st) s.heap.objs.size f cdv)) → PSs (cxOf (L2.CX P w) P w K mg base N qual (defScope st) f cdv A outer s H E) (defBody st) (tS T R (fun cls d _ H => E cls d H) g)) :
    DefOk P w K mg base T (k + 1) x n (mkF N.length g) := ⟨f, fd, ps, def_fn Fn S hn hb, hmg, Fn.kp, bd⟩
/-- the law's promise -/
def spL (K : PySem.W.Frag) : Sp := fun vs H Q _ => ∃ (a : Addr) (ns : List Int), vs = [.ref a] ∧ SqL K H a (ns.map V.int) ∧ ns.length ≤ 63 ∧ ∀ H', Q (.bl true) H'
theorem rp_ints {K : PySem.W.Frag} {G : Hp} : ∀ ns : List Int, RpL K G (ns.map D.int) (ns.map V.int)
  | [] => .nil
  | n :: ns => .cons (.int n) (rp_ints ns)
theorem spL_of {K : PySem.W.Frag} {T : Tb} {F : List D → FR} (law : ∀ ns : List Int, ns.length ≤ 63 → F [.frl (ns.map D.int)] = .ok (.bl true) false) (vs : List V) (H : Hp) (Q : VK) (E : XK) (h : spL K vs H Q E) : spF T K 1 F vs H Q E := by
  obtain ⟨a, ns, rfl, hS, hl, q⟩ := h
  refine ⟨rfl, H, [.frl (ns.map D.int)], Same.refl _, .cons (.frl hS (rp_ints ns)) .nil, ?_⟩
  rw [law ns hl]
  intro z H' G' st vf
  cases vf
  exact q H'
theorem cx_end {P : Program} {w : World} {H : Hp} {s s' : Shared} {e : Value} (h : L2.CX P w [] H s (fun _ _ _ => False) e s') : False := by
  obtain ⟨_, _, _, _, _, _, _, _, _, _, _, _, z⟩ := h
  exact z.elim
theorem xf_of {P : Program} {w : World} {K : PySem.W.Frag} {mg : Str → Option Value} {base : Heap} {T : Tb} {c : Nat} {x y : Str} (h : ExcD P w K mg base T c x y) : ∀ c' ∈ [c], ∃ C, T.cls c' = some (C, [y]) ∧ XfC K C ∧ PySem.W.findIn K (.ref C) y = some none := fun c' hc => by
  rw [List.mem_singleton.mp hc]
  obtain ⟨C, _, _, _, h1, _, _, h4, h5, _⟩ := h.ex
  exact ⟨C, h1, h4, h5⟩
theorem DefOk.mono {P : Program} {w : World} {K : PySem.W.Frag} {mg : Str → Option Value} {base : Heap} {T : Tb} {k l : Nat} {x : Str} {n : Nat} {F : List D → FR} (h : DefOk P w K mg base T k x n F) (kl : k ≤ l) : DefOk P w K mg base T l x n F := by
  obtain ⟨f, fd, ps, h1, h2⟩ := h.ex
  exact ⟨f, fd, ps, h1.mono kl, h2⟩
theorem se_call {k n : Nat} {x : Str} {F : List D → FR} {e : Expr} {es : List Expr} {f : AS → AR} {p : Pos} (dk : DefOk X.prog X.w X.K X.mg X.base T k x n F) (hK : X.K = R.K) (hr : Room k X.A) (hx : ∀ σ, PassesAt (L2.CX X.prog X.w) X σ (WE W σ)) (hg : Gl X x) (ha : PA X (e :: es) (tA T R W f)) (hn : Ar f n)
    (hdb : (x == ("__debug__" : Str)) = false := by decide) (he : starEach (e :: es) X.env = (false, eval e X.env) :: starEach es X.env := by rfl) (hpl : (backTo pos (starEach es X.env)).any (·.1) = false := by rfl) :
    PE X (.Call (.Name x p) (e :: es) [] pos) (tE T R W (eCall F f)) := by
  obtain ⟨g, fd, ps, h1, h2, h3, h4⟩ := dk.ex
  rw [hK] at h1
  exact se_callT (ta := tA T R W f) (pe_callSD (by rw [hK]; exact h1) hr hg h2 h3 h4 .nil hx ha hdb he hpl) hn
end
end MR

namespace MR
open PySem PySem.Spec PyProof.Rows L2

/-! ### the tests of a comprehension -/
section
variable {X : Cx} {T : Tb} {R : Rt} {W : WX} {pos : Pos}
theorem sts_nil : PTs X [] (tT T R W tYs) := ⟨fun pins s σ H Q I ⟨A, G, st, p⟩ => pts_nil.run pins s σ H Q I (p H G (Same.refl _) st (KeepA.refl _))⟩
theorem sts_one {e : Expr} {f : AS → TR} (h : PT X e (tT T R W f)) : PTs X [e] (tT T R W f) := pts_one h
end

/-! ### list comprehensions of two clauses; no error leaves them -/
def lcL2 (g : GD) (t : AS → TR) (fi1 : AS → IR) (g1 : GD) (t1 : AS → TR) (f : AS → ER) (own own1 : List Nat) : List D → AS → LR
  | [], A => .ok [] A
  | d :: r, A => match g d A with
    | none => .fail
    | some A1 => match t A1 with
      | .ok false A2 => lcL2 g t fi1 g1 t1 f own own1 r (unA own A2)
      | .ok true A2 => match fi1 A2 with
        | .ok items lk A3 => match quietA A3 own1 with
          | true => match lcL g1 t1 f own1 items (unA own1 A3) with
            | .ok ds A4 => match lcL2 g t fi1 g1 t1 f own own1 r (unA own (unlk lk A4)) with
              | .ok es A5 => .ok (ds ++ es) A5
              | x => x
            | x => x
          | false => .fail
        | .exc c fs A3 => .exc c fs A3
        | .fail => .fail
      | .exc c fs A2 => .exc c fs A2
      | .fail => .fail
def eLc2 (fi : AS → IR) (g : GD) (t : AS → TR) (fi1 : AS → IR) (g1 : GD) (t1 : AS → TR) (f : AS → ER) (own own1 : List Nat) : AS → ER := fun A => match fi A with
  | .ok items lk A1 => match quietA A1 own with
    | true => match lcL2 g t fi1 g1 t1 f own own1 items (unA own A1) with
      | .ok ds A2 => match decide (ds.length ≤ 16777216) with
        | true => .ok (.tmp (.lst ds)) (unlk lk (backA A1 own A2))
        | false => .fail
      | _ => .fail
    | false => .fail
  | _ => .fail
def xG (R : Rt) (wr : List Nat) (g : GD) : TG := fun v σ H Q => ∃ R' : Rt, R'.K = R.K ∧ tG R' wr g v σ H Q
def xT (T : Tb) (R : Rt) (t : AS → TR) : TT := fun σ H Q => ∃ R' : Rt, R'.K = R.K ∧ tT T R' W0 t σ H Q
def xI (T : Tb) (R : Rt) (t : AS → IR) : TI := fun σ H Q => ∃ R' : Rt, R'.K = R.K ∧ tI T R' W0 t σ H Q
def xE (T : Tb) (R : Rt) (t : AS → ER) : TE := fun σ H Q => ∃ R' : Rt, R'.K = R.K ∧ tE T R' W0 t σ H Q
def nDp (D : Addr) (A : AS) (σ : ST) : Prop := ∀ j, (sget A j).isOwn = true → σ[j]? ≠ some (some (.ref D))
def thenL (g : GD) (t : AS → TR) (fi1 : AS → IR) (g1 : GD) (t1 : AS → TR) (f : AS → ER) (own own1 : List Nat) (rest : List D) (lk : List Nat) : LR → LR
  | .ok ds A4 => match lcL2 g t fi1 g1 t1 f own own1 rest (unA own (unlk lk A4)) with
    | .ok es A5 => .ok (ds ++ es) A5
    | x => x
  | x => x
theorem addL_add (a b : List D) (r : LR) : addL a (addL b r) = addL (a ++ b) r := by cases r <;> simp [addL]
theorem thenL_cons {g t fi1 g1 t1 f own own1 rest lk} (acc : List D) (e : D) (r : LR) : addL acc (thenL g t fi1 g1 t1 f own own1 rest lk (match r with | .ok es A5 => .ok (e :: es) A5 | x => x)) = addL (acc ++ [e]) (thenL g t fi1 g1 t1 f own own1 rest lk r) := by
  cases r with
  | ok es A4 =>
    dsimp only [thenL]
    cases lcL2 g t fi1 g1 t1 f own own1 rest (unA own (unlk lk A4)) <;> simp [addL]
  | exc c fs A => rfl
  | fail => rfl
theorem addL_len {acc : List D} {r : LR} {ds : List D} {A : AS} (h : addL acc r = .ok ds A) : acc.length ≤ ds.length := by
  cases r with
  | ok es A' => dsimp only [addL] at h; cases h; simp
  | exc c fs A => cases h
  | fail => cases h
theorem keep_blk {A : AS} {σ : ST} {vs : List Nat} (q : quietA A vs = true) : Keep A σ (unA vs A) (wipe σ vs) := fun j d e => by
  have c : j ∉ vs := fun c => by
    have := quietA_get q c
    rw [e] at this; exact nomatch this
  exact ⟨by rw [(unA_get A j vs).2 c]; exact e, wipe_out c⟩
theorem nDp_un {D : Addr} {A : AS} {σ σ2 : ST} {vs : List Nat} (n : nDp D A σ2) (w : wipe σ2 vs = wipe σ vs) : nDp D (unA vs A) (wipe σ vs) := fun j ow e => by
  by_cases c : j ∈ vs
  · rw [(unA_get A j vs).1 c] at ow; exact nomatch ow
  · rw [(unA_get A j vs).2 c] at ow
    rw [← w, wipe_out c] at e
    exact n j ow e
theorem unlk_own2 : ∀ (l : List Nat) (A : AS) (j : Nat), (sget (unlk l A) j).isOwn = true → (sget A j).isOwn = true
  | [], _, _, h => h
  | i :: r, A, j, h => unlk1_own i A j (unlk_own2 r _ j h)
theorem lc2_of {T : Tb} {R : Rt} {fi fi1 : AS → IR} {g g1 : GD} {t t1 : AS → TR} {f : AS → ER} {wr wr1 vs vs1 : List Nat} {σ : ST} {H : Hp} {Q : VK} (hwr : ∀ j ∈ wr, j ∈ vs) (hwr1 : ∀ j ∈ wr1, j ∈ vs1) (hv : ∀ j ∈ vs1, j ∈ vs)
    (h : tE T R W0 (eLc2 fi g t fi1 g1 t1 f vs vs1) σ H Q) : tLc2 (tI T R W0 fi) (xG R wr g) (xT T R t) (xI T R fi1) (xG R wr1 g1) (xT T R t1) (xE T R f) vs vs1 σ H Q := by
  obtain ⟨A, G, s0, p⟩ := h
  refine ⟨A, G, s0, ?_⟩
  unfold eLc2 at p
  cases qf : fi A with
  | fail => rw [qf] at p; exact p
  | exc c fs A1 => rw [qf] at p; exact p.elim
  | ok items lk A1 =>
  rw [qf] at p
  intro J H1 G1 g1' s1 k1 hlk wk D nD
  dsimp only at p
  cases hqu : quietA A1 vs with
  | false => rw [hqu] at p; exact p.elim
  | true =>
  rw [hqu] at p
  dsimp only at p
  cases hfin : lcL2 g t fi1 g1 t1 f vs vs1 items (unA vs A1) with
  | exc c fs A2 => rw [hfin] at p; exact p.elim
  | fail => rw [hfin] at p; exact p.elim
  | ok total A2 =>
  rw [hfin] at p
  dsimp only at p
  split at p
  · rename_i hz
    have hz := of_decide_eq_true hz
    have gD1 : G1 D = none := s1.step.le.free nD
    have h0D : R.H0 D = none := s1.step.sH.free nD
    have g0D : R.G0 D = none := s1.step.sG.free gD1
    have sA1 : StOk R A1 σ (upd H1 D (.lst [])) G1 := s1.next (Step.tmp s1.step.le nD)
    have sB : StOk R (unA vs A1) (wipe σ vs) (upd H1 D (.lst [])) G1 := blk_in sA1 hqu
    have n1 : nDp D A1 σ := fun j ow e => by
      obtain ⟨_, _, x, hx⟩ := s1.own_none ow e
      rw [nD] at hx; cases hx
    have W : ∃ W : Nat → Nat → Hp → Prop, W = fun i m H' => ∃ A' G' acc accV, i + m = items.length ∧ Same G1 G' ∧ StOk R A' (wipe σ vs) H' G' ∧ Keep (unA vs A1) (wipe σ vs) A' (wipe σ vs) ∧ H' D = some (.lst accV) ∧ G' D = none ∧ nDp D A' (wipe σ vs) ∧
      RpL R.K G' acc accV ∧ addL acc (lcL2 g t fi1 g1 t1 f vs vs1 (items.drop i) A') = .ok total A2 := ⟨_, rfl⟩
    obtain ⟨W, hW⟩ := W
    refine ⟨W, ⟨items.length, ?_⟩, fun i m H2 w => ?_⟩
    · rw [hW]
      exact ⟨unA vs A1, G1, [], [], by omega, Same.refl _, sB, Keep.refl _ _, upd_same, gD1, nDp_un n1 rfl, .nil, by rw [addL_nil]; exact hfin⟩
    · rw [hW] at w
      obtain ⟨A', G', acc, accV, him, g', s', k', hD, gD, nDA, rl, eq⟩ := w
      have kA : Keep A1 σ A' (wipe σ vs) := (keep_blk hqu).trans k'
      obtain ⟨w1, w2⟩ := wk R A' (wipe σ vs) H2 G' rfl s' g' kA
      by_cases hi : i < items.length
      · obtain ⟨go, yl⟩ := w1 i items[i] (by simp [hi])
        have hd : items.drop i = items[i] :: items.drop (i + 1) := by rw [List.drop_eq_getElem_cons hi]
        rw [hd] at eq
        -- the turn's end
        refine .inr ⟨go, fun H' => W (i + 1) (m - 1) H', fun H' h => ⟨m - 1, by omega, h⟩, fun x H3 y => ?_⟩
        have fini : ∀ {H' : Hp} {A9 : AS} {G9 : Hp} {σ9 : ST} {acc9 : List MR.D} {accV9 : List V}, Same G1 G9 → StOk R A9 σ9 H' G9 → wipe σ9 vs = wipe σ vs → (∀ j d, sget A' j = .lk d → sget A9 j = .lk d) → H' D = some (.lst accV9) → G9 D = none → nDp D A9 σ9 → RpL R.K G9 acc9 accV9 →
            addL acc9 (lcL2 g t fi1 g1 t1 f vs vs1 (items.drop (i + 1)) (unA vs A9)) = .ok total A2 → W (i + 1) (m - 1) H' := fun {H' A9 G9 σ9 acc9 accV9} a1 a2 a3 a4 a5 a6 a7 a8 a9 => by
          rw [hW]
          refine ⟨unA vs A9, G9, acc9, accV9, by omega, a1, blk_un a2 a3, fun j d e => ⟨?_, rfl⟩, a5, a6, nDp_un a7 a3, a8, a9⟩
          have c : j ∉ vs := fun c => by rw [(unA_get A1 j vs).1 c] at e; cases e
          rw [(unA_get A9 j vs).2 c]
          exact a4 j d (k' j d e).1
        obtain ⟨G3, st3, rp⟩ := yl x H3 y
        obtain ⟨gD3, hD3⟩ := st3.free gD ⟨_, hD⟩
        rw [hD] at hD3
        have s3 := s'.next st3
        have sg := grd_in s3 h0D hD3 gD3 nDA
        have gg3 : Same G1 G3 := g'.trans st3.sG
        unfold lcL2 at eq
        cases qg : g items[i] A' with
        | none => rw [qg] at eq; cases eq
        | some A4 =>
          rw [qg] at eq
          dsimp only at eq
          refine ⟨R.grd D (.lst accV), rfl, A', G3, items[i], A4, sg, rp, qg, fun σ4 H4 G4 g4 s4 k4 o4 => ?_⟩
          have hw4 : wipe σ4 vs = wipe σ vs := by
            rw [← wipe_wipe σ vs]
            exact wipe_congr o4.1 fun j c => o4.2 j fun z => c (hwr j z)
          refine ⟨hw4, R.grd D (.lst accV), rfl, A4, G4, s4, ?_⟩
          cases ht : t A4 with
          | fail => rw [ht] at eq; cases eq
          | exc c fs A5 => rw [ht] at eq; cases eq
          | ok b A5 =>
            rw [ht] at eq
            intro H5 G5 g5 s5 k5
            have gg5 : Same G1 G5 := (gg3.trans g4).trans g5
            have kl5 : ∀ j d, sget A' j = .lk d → sget A5 j = .lk d := fun j d e => k5 j d (k4 j d e).1
            cases b with
            | false =>
              rw [if_neg Bool.false_ne_true]
              obtain ⟨so, hDo, gDo, nDo⟩ := grd_out s5 h0D g0D
              exact fini gg5 so hw4 kl5 hDo gDo nDo (rl.mono ((st3.sG.trans g4).trans g5)) eq
            | true =>
              rw [if_pos rfl]
              dsimp only at eq
              refine ⟨R.grd D (.lst accV), rfl, A5, G5, s5, ?_⟩
              cases qf1 : fi1 A5 with
              | fail => rw [qf1] at eq; cases eq
              | exc c fs A6 => rw [qf1] at eq; cases eq
              | ok items1 lk1 A6 =>
                rw [qf1] at eq
                intro J1 H6 G6 g6 s6 k6 hlk1 wk1
                dsimp only at eq
                obtain ⟨so6, hD6, gD6, nD6⟩ := grd_out s6 h0D g0D
                have gg6 : Same G1 G6 := gg5.trans g6
                have kl6 : ∀ j d, sget A' j = .lk d → sget A6 j = .lk d := fun j d e => k6 j d (kl5 j d e)
                cases hq1 : quietA A6 vs1 with
                | false => rw [hq1] at eq; cases eq
                | true =>
                  rw [hq1] at eq
                  dsimp only at eq
                  have eq : addL acc (thenL g t fi1 g1 t1 f vs vs1 (items.drop (i + 1)) lk1 (lcL g1 t1 f vs1 items1 (unA vs1 A6))) = .ok total A2 := by rw [← eq]; rfl
                  have hww : wipe (wipe σ4 vs1) vs = wipe σ vs := by
                    rw [← hw4]
                    exact wipe_congr (wipe_length _ _) fun j c => wipe_out fun z => c (hv j z)
                  have W1 : ∃ W1 : Nat → Nat → Hp → Prop, W1 = fun j k H' => ∃ A' G' acc' accV', j + k = items1.length ∧ Same G6 G' ∧ StOk R A' (wipe σ4 vs1) H' G' ∧ Keep (unA vs1 A6) (wipe σ4 vs1) A' (wipe σ4 vs1) ∧ H' D = some (.lst accV') ∧ G' D = none ∧ nDp D A' (wipe σ4 vs1) ∧
                    RpL R.K G' acc' accV' ∧ addL acc' (thenL g t fi1 g1 t1 f vs vs1 (items.drop (i + 1)) lk1 (lcL g1 t1 f vs1 (items1.drop j) A')) = .ok total A2 := ⟨_, rfl⟩
                  obtain ⟨W1, hW1⟩ := W1
                  refine ⟨W1, ⟨items1.length, ?_⟩, fun j k H7 w7 => ?_⟩
                  · rw [hW1]
                    exact ⟨unA vs1 A6, G6, acc, accV, by omega, Same.refl _, blk_in so6 hq1, Keep.refl _ _, hD6, gD6, nDp_un nD6 rfl, rl.mono (((st3.sG.trans g4).trans g5).trans g6), eq⟩
                  · rw [hW1] at w7
                    obtain ⟨A7, G7, acc7, accV7, hjk, g7, s7, k7, hD7, gD7, nD7, rl7, eq7⟩ := w7
                    have kB : Keep A6 σ4 A7 (wipe σ4 vs1) := (keep_blk hq1).trans k7
                    obtain ⟨v1, v2⟩ := wk1 R A7 (wipe σ4 vs1) H7 G7 rfl s7 g7 kB
                    have gg7 : Same G1 G7 := gg6.trans g7
                    by_cases hj : j < items1.length
                    · obtain ⟨go1, yl1⟩ := v1 j items1[j] (by simp [hj])
                      have hd1 : items1.drop j = items1[j] :: items1.drop (j + 1) := by rw [List.drop_eq_getElem_cons hj]
                      rw [hd1] at eq7
                      refine .inr ⟨go1, fun H' => W1 (j + 1) (k - 1) H', fun H' h => ⟨k - 1, by omega, h⟩, fun x1 H8 y1 => ?_⟩
                      have fin1 : ∀ {H' : Hp} {A9 : AS} {G9 : Hp} {σ9 : ST} {acc9 : List MR.D} {accV9 : List V}, Same G6 G9 → StOk R A9 σ9 H' G9 → wipe σ9 vs1 = wipe σ4 vs1 → (∀ j d, sget A7 j = .lk d → sget A9 j = .lk d) → H' D = some (.lst accV9) → G9 D = none → nDp D A9 σ9 → RpL R.K G9 acc9 accV9 →
                          addL acc9 (thenL g t fi1 g1 t1 f vs vs1 (items.drop (i + 1)) lk1 (lcL g1 t1 f vs1 (items1.drop (j + 1)) (unA vs1 A9))) = .ok total A2 → W1 (j + 1) (k - 1) H' := fun {H' A9 G9 σ9 acc9 accV9} a1 a2 a3 a4 a5 a6 a7 a8 a9 => by
                        rw [hW1]
                        refine ⟨unA vs1 A9, G9, acc9, accV9, by omega, a1, blk_un a2 a3, fun j d e => ⟨?_, rfl⟩, a5, a6, nDp_un a7 a3, a8, a9⟩
                        have c : j ∉ vs1 := fun c => by rw [(unA_get A6 j vs1).1 c] at e; cases e
                        rw [(unA_get A9 j vs1).2 c]
                        exact a4 j d (k7 j d e).1
                      obtain ⟨G8, st8, rp8⟩ := yl1 x1 H8 y1
                      obtain ⟨gD8, hD8⟩ := st8.free gD7 ⟨_, hD7⟩
                      rw [hD7] at hD8
                      have s8 := s7.next st8
                      have sg8 := grd_in s8 h0D hD8 gD8 nD7
                      unfold lcL at eq7
                      cases qg1 : g1 items1[j] A7 with
                      | none => rw [qg1] at eq7; cases eq7
                      | some A9 =>
                        rw [qg1] at eq7
                        dsimp only at eq7
                        refine ⟨R.grd D (.lst accV7), rfl, A7, G8, items1[j], A9, sg8, rp8, qg1, fun σ9 H9 G9 g9 s9 k9 o9 => ?_⟩
                        have hw9 : wipe σ9 vs1 = wipe σ4 vs1 := by
                          rw [← wipe_wipe σ4 vs1]
                          exact wipe_congr o9.1 fun j c => o9.2 j fun z => c (hwr1 j z)
                        refine ⟨hw9, R.grd D (.lst accV7), rfl, A9, G9, s9, ?_⟩
                        cases ht1 : t1 A9 with
                        | fail => rw [ht1] at eq7; cases eq7
                        | exc c fs A5 => rw [ht1] at eq7; cases eq7
                        | ok b A10 =>
                          rw [ht1] at eq7
                          intro H10 G10 g10 s10 k10
                          have kl10 : ∀ j d, sget A7 j = .lk d → sget A10 j = .lk d := fun j d e => k10 j d (k9 j d e).1
                          cases b with
                          | false =>
                            rw [if_neg Bool.false_ne_true]
                            obtain ⟨so, hDo, gDo, nDo⟩ := grd_out s10 h0D g0D
                            exact fin1 (((g7.trans st8.sG).trans g9).trans g10) so hw9 kl10 hDo gDo nDo (rl7.mono ((st8.sG.trans g9).trans g10)) eq7
                          | true =>
                            rw [if_pos rfl]
                            dsimp only at eq7
                            refine ⟨R.grd D (.lst accV7), rfl, A10, G10, s10, ?_⟩
                            cases qe : f A10 with
                            | fail => rw [qe] at eq7; cases eq7
                            | exc c fs A5 => rw [qe] at eq7; cases eq7
                            | ok v A11 =>
                              rw [qe] at eq7
                              intro yv H11 G11 g11 s11 k11 r11
                              dsimp only at eq7
                              cases qs : settle v A11 with
                              | none => rw [qs] at eq7; cases eq7
                              | some z =>
                                obtain ⟨e1, A12⟩ := z
                                rw [qs] at eq7
                                dsimp only at eq7
                                obtain ⟨G12, g12, s12, r12, k12⟩ := settle_ok s11 r11 qs
                                obtain ⟨so, hDo, gDo, nDo⟩ := grd_out s12 h0D g0D
                                have eq7 : addL (acc7 ++ [e1]) (thenL g t fi1 g1 t1 f vs vs1 (items.drop (i + 1)) lk1 (lcL g1 t1 f vs1 (items1.drop (j + 1)) (unA vs1 A12))) = .ok total A2 := (thenL_cons _ _ _).symm.trans eq7
                                have hlen := addL_len eq7
                                rw [List.length_append, List.length_singleton, rl7.len] at hlen
                                refine ⟨accV7, hDo, by rw [sizeLine_eq]; omega, ?_⟩
                                exact fin1 (((((g7.trans st8.sG).trans g9).trans g10).trans g11).trans g12) (grow so hDo gDo h0D nDo) hw9 (fun j d e => k12 j d (k11 j d (kl10 j d e))) upd_same gDo nDo
                                  ((rl7.mono ((((st8.sG.trans g9).trans g10).trans g11).trans g12)).app (.cons r12 .nil)) eq7
                    · have ej : j = items1.length := by omega
                      subst ej
                      rw [List.drop_length] at eq7
                      refine .inl ⟨v2, ?_⟩
                      have eq8 : addL acc7 (lcL2 g t fi1 g1 t1 f vs vs1 (items.drop (i + 1)) (unA vs (unlk lk1 A7))) = .ok total A2 := by
                        rw [← eq7]
                        unfold lcL thenL
                        dsimp only
                        cases lcL2 g t fi1 g1 t1 f vs vs1 (items.drop (i + 1)) (unA vs (unlk lk1 A7)) <;> rfl
                      have hl : ∀ q ∈ lk1, ∀ d, sget A5 q ≠ .lk d := hlk1
                      refine fini gg7 (unlk_ok lk1 s7) hww (fun q d e => ?_) hD7 gD7 (fun q ow e => nD7 q (unlk_own2 lk1 A7 q ow) e) rl7 eq8
                      have kk : Keep A5 σ4 A7 (wipe σ4 vs1) := (Keep.of k6).trans kB
                      exact (unlk_keep lk1 kk hl q d (kl5 q d e)).1
      · have ei : i = items.length := by omega
        subst ei
        rw [List.drop_length] at eq
        have eq' : (LR.ok acc A' : LR) = .ok total A2 := by rw [← eq]; simp [lcL2, addL]
        cases eq'
        have sOut := blk_out sA1 hqu s' (wipe_wipe σ vs) g'
        have kOut : Keep A1 σ (backA A1 vs A2) σ := fun j d e => by
          have c : j ∉ vs := fun c => by
            have := quietA_get hqu c
            rw [e] at this; exact nomatch this
          have hl : A1.length = A2.length := by rw [s1.len, s'.len, wipe_length]
          exact ⟨by rw [(backA_get A1 A2 hl j vs).2 c]; exact (kA j d e).1, rfl⟩
        refine .inl ⟨w2, p (.ref D) H2 G' (g1'.trans g') (unlk_ok lk sOut) (fun j d ej => (unlk_keep lk ((Keep.of k1).trans kOut) hlk j d ej).1) ⟨D, rfl, gD, h0D, ⟨accV, hD, rl⟩, fun j ow e => ?_⟩⟩
        have ow := unlk_own2 lk _ j ow
        have hl : A1.length = A2.length := by rw [s1.len, s'.len, wipe_length]
        by_cases c : j ∈ vs
        · rw [(backA_get A1 A2 hl j vs).1 c, quietA_get hqu c] at ow; exact nomatch ow
        · rw [(backA_get A1 A2 hl j vs).2 c] at ow
          exact nDA j ow (by rw [wipe_out c]; exact e)
  · exact p.elim
end MR

namespace MR
open PySem PySem.Spec PyProof.Rows L2

section
variable {X : Cx} {T : Tb} {R : Rt} {W : WX} {pos : Pos}
structure BlkP2 (X : Cx) (T : Tb) (R : Rt) (scope : Scope) (tg elt : Expr) (ifs : List Expr) (tg1 iter1 : Expr) (ifs1 : List Expr) (wr : List Nat) (g : GD) (t : AS → TR) (fi1 : AS → IR) (wr1 : List Nat) (g1 : GD) (t1 : AS → TR) (f : AS → ER) : Prop where
  go : ∀ (s : Shared) (H : Hp) (C : Addr) (cl : List (Str × Addr)) (fp : List Addr) (R' : Rt), R'.K = R.K →
    PG (X.blk s H scope (compEnvC scope cl C X.env) fp) tg (tG R' wr g) ∧ PTs (X.blk s H scope (compEnvC scope cl C X.env) fp) ifs (tT T R' W0 t) ∧ PI (X.blk s H scope (compEnvC scope cl C X.env) fp) tg1 iter1 (tI T R' W0 fi1) ∧
      PG (X.blk s H scope (compEnvC scope cl C X.env) fp) tg1 (tG R' wr1 g1) ∧ PTs (X.blk s H scope (compEnvC scope cl C X.env) fp) ifs1 (tT T R' W0 t1) ∧ PE (X.blk s H scope (compEnvC scope cl C X.env) fp) elt (tE T R' W0 f)
theorem xG_of {tg : Expr} {wr : List Nat} {g : GD} (h : ∀ R' : Rt, R'.K = R.K → PG X tg (tG R' wr g)) : PG X tg (xG R wr g) := ⟨fun pins s σ H v u Q I r ⟨R', hK, q⟩ => (h R' hK).run pins s σ H v u Q I r q⟩
theorem xT_of {ifs : List Expr} {t : AS → TR} (h : ∀ R' : Rt, R'.K = R.K → PTs X ifs (tT T R' W0 t)) : PTs X ifs (xT T R t) := ⟨fun pins s σ H Q I ⟨R', hK, q⟩ => (h R' hK).run pins s σ H Q I q⟩
theorem xI_of {tg it : Expr} {t : AS → IR} (h : ∀ R' : Rt, R'.K = R.K → PI X tg it (tI T R' W0 t)) : PI X tg it (xI T R t) := ⟨fun pins s σ H Q I ⟨R', hK, q⟩ => (h R' hK).run pins s σ H Q I q⟩
theorem xE_of {e : Expr} {t : AS → ER} (h : ∀ R' : Rt, R'.K = R.K → PE X e (tE T R' W0 t)) : PE X e (xE T R t) := ⟨fun pins s σ H Q I ⟨R', hK, q⟩ => (h R' hK).run pins s σ H Q I q⟩
theorem se_lc2 {elt tg iter tg1 iter1 : Expr} {ifs ifs1 : List Expr} {scope : Scope} {own : List (Str × Nat)} {vs1 : List Nat} {fi fi1 : AS → IR} {wr wr1 : List Nat} {g g1 : GD} {t t1 : AS → TR} {f : AS → ER}
    (hc : X.calm = true) (hN : X.N.Nodup) (hi : PI X tg iter (tI T R W0 fi)) (ok : BlkOk X.N X.env.scope scope own) (hb : BlkP2 X T R scope tg elt ifs tg1 iter1 ifs1 wr g t fi1 wr1 g1 t1 f)
    (hv : ∀ i ∈ vs1, i ∈ own.map (·.2)) (hwr : ∀ j ∈ wr, j ∈ own.map (·.2)) (hwr1 : ∀ j ∈ wr1, j ∈ vs1) (hs : ∀ x, foldedSetIterable iter X.env x = pure x := by intro _; rfl) (hs1 : ∀ env x, foldedSetIterable iter1 env x = pure x := by intro _ _; rfl) :
    PE X (.ListComp elt [⟨tg, iter, ifs, 0⟩, ⟨tg1, iter1, ifs1, 0⟩] scope pos) (tE T R W (eNx (eLc2 fi g t fi1 g1 t1 f (own.map (·.2)) vs1))) :=
  pe_imp (pe_lc2 hc hN hi ok hv (fun s H C cl fp => xG_of fun R' h => (hb.go s H C cl fp R' h).1) (fun s H C cl fp => xT_of fun R' h => (hb.go s H C cl fp R' h).2.1) (fun s H C cl fp => xI_of fun R' h => (hb.go s H C cl fp R' h).2.2.1)
    (fun s H C cl fp => xG_of fun R' h => (hb.go s H C cl fp R' h).2.2.2.1) (fun s H C cl fp => xT_of fun R' h => (hb.go s H C cl fp R' h).2.2.2.2.1) (fun s H C cl fp => xE_of fun R' h => (hb.go s H C cl fp R' h).2.2.2.2.2) hs hs1) fun σ H Q q => lc2_of hwr hwr1 hv (tE_nx q)
theorem s_setLc2 {i : Nat} {y : Str} {py spos : Pos} {elt tg iter tg1 iter1 : Expr} {ifs ifs1 : List Expr} {scope : Scope} {own : List (Str × Nat)} {vs1 : List Nat} {fi fi1 : AS → IR} {wr wr1 : List Nat} {g g1 : GD} {t t1 : AS → TR} {f : AS → ER}
    (hc : X.calm = true) (hN : X.N.Nodup) (hy : X.N[i]? = some y) (hyl : X.env.scope.names.lookup y = some .local)
    (hsw : swapsWith (.ListComp elt [⟨tg, iter, ifs, 0⟩, ⟨tg1, iter1, ifs1, 0⟩] scope pos) (some (.Name y py)) spos.line X.env = pure true) (hi : PI X tg iter (tI T R W0 fi)) (ok : BlkOk X.N X.env.scope scope own) (hb : BlkP2 X T R scope tg elt ifs tg1 iter1 ifs1 wr g t fi1 wr1 g1 t1 f)
    (hv : ∀ i ∈ vs1, i ∈ own.map (·.2)) (hwr : ∀ j ∈ wr, j ∈ own.map (·.2)) (hwr1 : ∀ j ∈ wr1, j ∈ vs1) (hs : ∀ x, foldedSetIterable iter X.env x = pure x := by intro _; rfl) (hs1 : ∀ env x, foldedSetIterable iter1 env x = pure x := by intro _ _; rfl) :
    PS X (.Assign [.Name y py] (.ListComp elt [⟨tg, iter, ifs, 0⟩, ⟨tg1, iter1, ifs1, 0⟩] scope pos) spos) (tS T R W (sAsg i (eNx (eLc2 fi g t fi1 g1 t1 f (own.map (·.2)) vs1)))) :=
  ps_imp (ps_setLc2 hc hN hy hyl hsw hi ok hv (fun s H C cl fp => xG_of fun R' h => (hb.go s H C cl fp R' h).1) (fun s H C cl fp => xT_of fun R' h => (hb.go s H C cl fp R' h).2.1) (fun s H C cl fp => xI_of fun R' h => (hb.go s H C cl fp R' h).2.2.1)
    (fun s H C cl fp => xG_of fun R' h => (hb.go s H C cl fp R' h).2.2.2.1) (fun s H C cl fp => xT_of fun R' h => (hb.go s H C cl fp R' h).2.2.2.2.1) (fun s H C cl fp => xE_of fun R' h => (hb.go s H C cl fp R' h).2.2.2.2.2) hs hs1) fun D σ H q => by
      have z := asg_imp q
      exact lc2_of hwr hwr1 hv (tE_nx z)

/-! ### dicts -/
def eDic0 : AS → ER := fun A => .ok (.tmp (.dic [])) A
theorem se_dic0 : PE X (.Dict [] [] pos) (tE T R W eDic0) := pe_imp pe_dnewK fun σ H Q ⟨A, G, s, p⟩ a na => by
  have st := Step.tmp (o := .dK []) s.step.le na
  have vf : VF R.K G H (upd H a (.dK [])) (.dic []) true (.ref a) := ⟨a, rfl, na, s.step.le.free na, [], upd_same, .nil⟩
  exact p _ _ G (Same.refl _) (s.next st) (KeepA.refl _) (vf_vr s st vf)
def lookK (k : Key) : List (D × D) → Option D
  | [] => none
  | (x, d) :: r => if keyD x = some k then some d else lookK k r
theorem RpKV.look {K : PySem.W.Frag} {G : Hp} {k : Key} : ∀ {ds : List (D × D)} {kvs : List (Key × V)}, RpKV K G ds kvs → (∀ v, valV kvs k = some v → ∃ d, lookK k ds = some d ∧ Rp K G d v) ∧ (valV kvs k = none → lookK k ds = none)
  | _, _, .nil => ⟨(fun v h => nomatch (valV_nil.symm.trans h)), fun _ => rfl⟩
  | _, _, .cons (k := x) (d := d) (key := key) (v := v) (ds := ds) (vs := vs) e r t => by
    obtain ⟨h1, h2⟩ := RpKV.look (k := k) t
    by_cases c : key = k
    · subst c
      rw [valV_pos rfl]
      refine ⟨fun w h => ?_, fun h => by cases h⟩
      cases h
      exact ⟨d, by unfold lookK; rw [if_pos e], r⟩
    · rw [valV_neg c]
      have e2 : lookK k ((x, d) :: ds) = lookK k ds := by
        show (if keyD x = some k then some d else lookK k ds) = lookK k ds
        rw [if_neg (by rw [e]; exact fun z => c (Option.some.inj z))]
      rw [e2]
      exact ⟨h1, h2⟩
theorem RpKV.len {K : PySem.W.Frag} {G : Hp} : ∀ {ds : List (D × D)} {kvs : List (Key × V)}, RpKV K G ds kvs → ds.length = kvs.length
  | _, _, .nil => rfl
  | _, _, .cons _ _ t => by simp [RpKV.len t]
theorem RpKV.snoc {K : PySem.W.Frag} {G : Hp} {x d : D} {k : Key} {v : V} (e : keyD x = some k) (r : Rp K G d v) : ∀ {ds : List (D × D)} {kvs : List (Key × V)}, RpKV K G ds kvs → RpKV K G (ds ++ [(x, d)]) (kvs ++ [(k, v)])
  | _, _, .nil => .cons e r .nil
  | _, _, .cons e' r' t => .cons e' r' (RpKV.snoc e r t)
theorem putK_new {kvs : List (Key × V)} {k : Key} {v : V} (h : valV kvs k = none) : putK kvs k v = kvs ++ [(k, v)] := by
  unfold putK
  rw [if_neg]
  intro z
  obtain ⟨p, hp, e⟩ := List.any_eq_true.mp z
  unfold valV at h
  rw [Option.map_eq_none_iff, List.find?_eq_none] at h
  exact h p hp e
theorem StOk.wrO {A : AS} {σ : ST} {H G : Hp} {i : Nat} {d d' : D} {a : Addr} {o : HO} (s : StOk R A σ H G) (q : sget A i = .ow d) (e : σ[i]? = some (some (.ref a))) (w : OwnAt R.K G (upd H a o) a d') : StOk R (sset A i (.ow d')) σ (upd H a o) G := by
  have oi : (sget A i).isOwn = true := by rw [q]; rfl
  obtain ⟨g, h0, x, hx⟩ := s.own_none oi e
  have key : ∀ j, (sget (sset A i (.ow d')) j).isOwn = true → (sget A j).isOwn = true := fun j h => by
    by_cases c : i = j
    · subst c; exact oi
    · rw [sget_ne _ _ _ _ c] at h; exact h
  refine ⟨⟨fun b o eb => ?_, s.step.sG, fun b o eb => ?_, s.step.new⟩, (sset_len _ _ _).trans s.len, fun j => ?_, fun j k b h1 h2 => s.inj j k b (key j h1) (key k h2)⟩
  · rw [upd_ne (ne_of_none eb h0)]; exact s.step.sH _ _ eb
  · rw [upd_ne (ne_of_none eb g)]; exact s.step.le _ _ eb
  · by_cases c : i = j
    · subst c
      rcases sget_eq A i (.ow d') with z | ⟨z, _⟩
      · rw [z]; exact ⟨a, e, g, h0, w⟩
      · rw [z]; trivial
    · rw [sget_ne _ _ _ _ c]
      refine (s.at_ j).mono (Same.refl _) fun b ob eb gb _ => ⟨gb, upd_ne fun z => ?_⟩
      subst z
      exact c (s.inj i j b oi ob e eb)
theorem StOk.own_dic {A : AS} {σ : ST} {H G : Hp} {i : Nat} {ds : List (D × D)} {x : V} (s : StOk R A σ H G) (q : sget A i = .ow (.dic ds)) (e : σ[i]? = some (some x)) : ∃ a vs, x = .ref a ∧ H a = some (.dK vs) ∧ RpKV R.K G ds vs := by
  have at_ := s.at_ i
  rw [q] at at_
  obtain ⟨a, e1, _, _, vs, h1, h2⟩ := at_
  rw [e] at e1; cases e1
  exact ⟨a, vs, rfl, h1, h2⟩
theorem keyD_ok {K : PySem.W.Frag} {G H : Hp} {x : D} {k : Key} {v : V} (r : RpB K G H x v) (e : keyD x = some k) : v = kV k := by
  cases x with
  | int i => cases e; exact r.int
  | str i => cases e; exact r.str
  | _ => exact nomatch e
/-- d.setdefault(k, v), d one's own -/
def setdA (i : Nat) (x d : D) (A : AS) : ER := match sget A i with
  | .ow (.dic l) => if l.length < tooLong then match keyD x with
    | some k => match lookK k l with
      | some d0 => .ok (.fz d0) A
      | none => .ok (.fz d) (sset A i (.ow (.dic (l ++ [(x, d)]))))
    | none => .fail
    else .fail
  | _ => .fail
def eSetd (i : Nat) (fk fv : AS → ER) : AS → ER := fun A => match sget A i with
  | .ow (.dic _) => match fk A with
    | .ok v A1 => match fv A1 with
      | .ok w A2 => match settle (hold v) A2 with
        | some (x, A3) => match settle w A3 with
          | some (d, A4) => setdA i x d A4
          | none => .fail
        | none => .fail
      | r => r
    | r => r
  | _ => .fail
theorem Keep.settle {A A1 : AS} {v : Vm} {d : D} (h : MR.settle v A = some (d, A1)) : A1 = A ∨ ∃ i, v = .sl i := by
  cases v with
  | fz _ => cases h; exact .inl rfl
  | tmp _ => cases h; exact .inl rfl
  | sl i => exact .inr ⟨i, rfl⟩
theorem se_setd {i : Nat} {x : Str} {e1 e2 : Expr} {fk fv : AS → ER} {p ap cp : Pos} (hn : PE X (.Name x p) (tVar i)) (h1 : PE X e1 (tE T R W fk)) (h2 : PE X e2 (tE T R W fv)) (m : M2 X (.Name x p) "setdefault" ap e1 e2 cp) :
    PE X (.Call (.Attribute (.Name x p) "setdefault" ap) [e1, e2] [] cp) (tE T R W (eSetd i fk fv)) := pe_imp (pe_dsetd hn h1 h2 m) fun σ H Q ⟨A, G, s, q⟩ => by
  unfold eSetd at q
  split at q
  · rename_i ds0 q0
    have at_ := s.at_ i
    rw [q0] at at_
    obtain ⟨a, ea, _, _, vs0, ha0, _⟩ := at_
    refine ⟨.ref a, ea, a, rfl, .inl ⟨vs0, .inl ha0⟩, A, G, s, ?_⟩
    cases qk : fk A with
    | fail => rw [qk] at q; exact q
    | exc c fs A1 => rw [qk] at q; exact q
    | ok v A1 =>
      rw [qk] at q
      intro y H1 G1 g1 s1 k1 r1
      obtain ⟨G2, g2, s2, r2⟩ := hold_ok s1 r1
      refine ⟨A1, G2, s2, ?_⟩
      dsimp only at q
      cases qv : fv A1 with
      | fail => rw [qv] at q; exact q
      | exc c fs A2 => rw [qv] at q; exact fun cls dx H' G' g' => q cls dx H' G' ((g1.trans g2).trans g')
      | ok w A2 =>
        rw [qv] at q
        intro z H3 G3 g3 s3 k3 r3
        dsimp only at q
        obtain ⟨Gh, gh, sh, rh⟩ := hold_ok s3 r3
        split at q
        · rename_i kx A3 q3
          obtain ⟨G4, g4, s4, r4, k4⟩ := settle_ok sh (r2.keep (A' := A2) (H' := H3) (hold_held v) (g3.trans gh)) q3
          split at q
          · rename_i d A4 q4
            have rw3 : VR R A3 σ H3 G4 (hold w) z := rh.keep (hold_held w) g4
            have q4' : settle (hold w) A3 = some (d, A4) := by cases w <;> exact q4
            obtain ⟨G5, g5, s5, r5, k5⟩ := settle_ok s4 rw3 q4'
            unfold setdA at q
            split at q
            · rename_i l ql
              split at q
              · rename_i hz
                split at q
                · rename_i k hk
                  obtain ⟨a', vs, e', h', rl⟩ := s5.own_dic ql ea
                  cases e'
                  obtain ⟨l1, l2⟩ := rl.look (k := k)
                  have gg : Same G G5 := ((((g1.trans g2).trans g3).trans gh).trans g4).trans g5
                  have kk : KeepA A A4 := ((k1.trans k3).trans k4).trans k5
                  have ey := keyD_ok (K := R.K) (G := G4) (H := H3) (.inl r4) hk
                  refine ⟨vs, k, h', ey, by rw [← rl.len, sizeLine_eq]; exact hz, fun v hv => ?_, fun hn => ?_⟩
                  · obtain ⟨d1, e1, r1'⟩ := l1 v hv
                    rw [e1] at q
                    exact q v H3 G5 gg s5 kk r1'
                  · rw [l2 hn] at q
                    rw [putK_new hn]
                    have s6 := s5.wrO ql ea (o := .dK (vs ++ [(k, z)])) (d' := .dic (l ++ [(kx, d)])) ⟨_, upd_same, rl.snoc hk r5⟩
                    exact q z _ G5 gg s6 (kk.trans (keep_wr ql)) r5
                · exact q.elim
              · exact q.elim
            · exact q.elim
          · exact q.elim
        · exact q.elim
  · exact q.elim
end

/-! ### the class facts of the top -/
theorem exm_of {K : PySem.W.Frag} {S c : Addr} {b : Bool} (h1 : PySem.W.subIn K (.ref c) (.type "BaseException") = some true) (h2 : PySem.W.isClsIn K S = true) (h3 : PySem.W.typeIn K (.ref c) = some (.type "type")) (h4 : PySem.W.subIn K (.ref S) (.ref c) = some b) (hc : PySem.W.isClsIn K c = true) :
    PySem.W.exmOne K (.ref S) (.ref c) = some b := by
  have e1 : (PySem.W.subIn K (.ref c) (.type "BaseException") == some true) = true := by rw [h1] <;> rfl
  have e2 : ((PySem.W.clsIn K c).isSome && PySem.W.typeIn K (.ref c) == some (.type "type")) = true := by
    have h2' : (PySem.W.clsIn K c).isSome = true := hc
    rw [h2', h3] <;> rfl
  show (if (PySem.W.subIn K (.ref c) (.type "BaseException") == some true) = true then (if ((PySem.W.clsIn K c).isSome && PySem.W.typeIn K (.ref c) == some (.type "type")) = true then PySem.W.subIn K (.ref S) (.ref c) else none) else none) = some b
  rw [if_pos e1, if_pos e2]
  exact h4
theorem excD_mk {P : Program} {w : World} {K : PySem.W.Frag} {mg : Str → Option Value} {base : Heap} {T : Tb} {c : Nat} {x y v qual : Str} {C fI : Addr} {fd : FuncData} {st : Stmt} (hT : T.cls c = some (C, [y])) (hm : mg x = some (.ref C)) (oc : OexC K C) (xc : XfC K C) (hy : PySem.W.findIn K (.ref C) y = some none)
    (hi : PySem.W.findIn K (.ref C) "__init__" = some (some (.ref fI))) (ht : PySem.W.typeIn K (.ref fI) = some (.type "function")) (F : Fun K "__init__" qual st fI fd) (S : FnScope ["self", v] ["self", v] (defScope st)) (bd : Binds K fd ["self", v] [])
    (hb : ∀ (cdv : Value) (A : Around) (outer : List Env) (s : Shared) (H : Hp) (E : XK), PSs (cxOf (L2.CX P w) P w K mg base ["self", v] qual (defScope st) fI cdv A outer s H E) (defBody st) (tOst K y (tVar 0) (tVar 1))) : ExcD P w K mg base T c x y := by
  refine ⟨C, fI, fd, ["self", v], hT, hm, oc, xc, hy, hi, ht, ?_, bd⟩
  refine F.okX S (fun vs H Q E h => ?_) fun cdv A outer s H vs Q E hr h => ⟨_, hb cdv A outer s H E, ?_⟩
  · obtain ⟨a, v, rfl, _⟩ := h
    rfl
  · obtain ⟨a, u, rfl, e, q⟩ := h
    exact ⟨u, rfl, .ref a, rfl, a, C, rfl, oc, hy, .inl ⟨e, fun dx n ne => q dx n ne⟩⟩
end MR

namespace MR
open PySem PySem.Spec PyProof.Rows L2

/-! ### canonical fractions -/
def fr (q : Rat) : D := .tup [.int q.num, .int q.den]
structure Sz (n : Nat) (q : Rat) : Prop where
  num : q.num.natAbs < 2 ^ n
  den : q.den < 2 ^ n
theorem Sz.mono {n m : Nat} {q : Rat} (h : Sz n q) (l : n ≤ m) : Sz m q := ⟨Nat.lt_of_lt_of_le h.num (Nat.pow_le_pow_right (by decide) l), Nat.lt_of_lt_of_le h.den (Nat.pow_le_pow_right (by decide) l)⟩
theorem log2_lt {a n : Nat} (h : a < 2 ^ n) : a.log2 ≤ n := by
  by_cases z : a = 0
  · subst z; exact Nat.zero_le _
  · exact Nat.le_of_lt ((Nat.log2_lt z).mpr h)
theorem cMul_ok {i j : Int} {n m : Nat} (hi : i.natAbs < 2 ^ n) (hj : j.natAbs < 2 ^ m) (h : n + m < 1000000) : cMul i j = true := by
  unfold cMul
  have := log2_lt hi
  have := log2_lt hj
  exact decide_eq_true (by omega)
theorem cDiv_ok {i j : Int} {n : Nat} (h : 0 < j) (hj : j.natAbs < 2 ^ n) (hn : n < 9000) : cDiv i j = true := by
  unfold cDiv
  rw [Bool.and_eq_true]
  have := log2_lt hj
  exact ⟨decide_eq_true h, decide_eq_true (by omega)⟩
theorem mk_num {t : Int} {b : Nat} (h : b ≠ 0) : (mkRat t b).num = t / (Nat.gcd t.natAbs b : Nat) := by rw [Rat.num_mkRat, if_neg h, Nat.gcd_comm]
theorem mk_den {t : Int} {b : Nat} (h : b ≠ 0) : (mkRat t b).den = b / Nat.gcd t.natAbs b := by rw [Rat.den_mkRat, if_neg h, Nat.gcd_comm]
theorem mk_sz {t : Int} {b n : Nat} (ht : t.natAbs < 2 ^ n) (hb : b < 2 ^ n) (h : b ≠ 0) : Sz n (mkRat t b) := by
  refine ⟨?_, ?_⟩
  · rw [mk_num h]
    refine Nat.lt_of_le_of_lt ?_ ht
    rw [Int.natAbs_ediv_of_dvd (Int.ofNat_dvd_left.mpr (Nat.gcd_dvd_left _ _))]
    exact Nat.div_le_self _ _
  · rw [mk_den h]
    exact Nat.lt_of_le_of_lt (Nat.div_le_self _ _) hb
theorem fr_mk {t : Int} {b : Nat} (h : b ≠ 0) : D.tup [.int (t / (Nat.gcd t.natAbs b : Nat)), .int ((b : Int) / (Nat.gcd t.natAbs b : Nat))] = fr (mkRat t b) := by
  unfold fr
  rw [mk_num h, mk_den h]
  simp
theorem den_ne {q : Rat} : q.den ≠ 0 := q.den_nz
theorem mul_den_ne {p q : Rat} : p.den * q.den ≠ 0 := Nat.mul_ne_zero p.den_nz q.den_nz
theorem mul_lt {a b n m : Nat} (ha : a < 2 ^ n) (hb : b < 2 ^ m) : a * b < 2 ^ (n + m) := by
  rw [Nat.pow_add]
  exact Nat.lt_of_le_of_lt (Nat.mul_le_mul_left _ (Nat.le_of_lt hb)) (Nat.mul_lt_mul_of_pos_right ha (Nat.two_pow_pos m))
theorem natAbs_mul_lt {a b : Int} {n m : Nat} (ha : a.natAbs < 2 ^ n) (hb : b.natAbs < 2 ^ m) : (a * b).natAbs < 2 ^ (n + m) := by
  rw [Int.natAbs_mul]; exact mul_lt ha hb
theorem cross_lt {p q : Rat} {n m : Nat} (hp : Sz n p) (hq : Sz m q) : (p.num * q.den + q.num * p.den).natAbs < 2 ^ (n + m + 1) ∧ (p.num * q.den - q.num * p.den).natAbs < 2 ^ (n + m + 1) ∧ p.den * q.den < 2 ^ (n + m + 1) ∧ (p.num * q.num).natAbs < 2 ^ (n + m + 1) := by
  have h1 : (p.num * q.den).natAbs < 2 ^ (n + m) := natAbs_mul_lt hp.num (by simpa using hq.den)
  have h2 : (q.num * p.den).natAbs < 2 ^ (n + m) := by rw [Nat.add_comm]; exact natAbs_mul_lt hq.num (by simpa using hp.den)
  have h3 : p.den * q.den < 2 ^ (n + m) := mul_lt hp.den hq.den
  have h4 : (p.num * q.num).natAbs < 2 ^ (n + m) := natAbs_mul_lt hp.num hq.num
  have e : 2 ^ (n + m + 1) = 2 ^ (n + m) + 2 ^ (n + m) := by rw [Nat.pow_succ]; omega
  rw [e]
  refine ⟨?_, ?_, by omega, by omega⟩
  · have := Int.natAbs_add_le (p.num * q.den) (q.num * p.den); omega
  · have := Int.natAbs_sub_le (p.num * q.den) (q.num * p.den); omega
theorem Sz.add {p q : Rat} {n m : Nat} (hp : Sz n p) (hq : Sz m q) : Sz (n + m + 1) (p + q) := by
  rw [Rat.add_def']; exact mk_sz (cross_lt hp hq).1 (cross_lt hp hq).2.2.1 mul_den_ne
theorem Sz.sub {p q : Rat} {n m : Nat} (hp : Sz n p) (hq : Sz m q) : Sz (n + m + 1) (p - q) := by
  rw [Rat.sub_def']; exact mk_sz (cross_lt hp hq).2.1 (cross_lt hp hq).2.2.1 mul_den_ne
theorem Sz.mul {p q : Rat} {n m : Nat} (hp : Sz n p) (hq : Sz m q) : Sz (n + m + 1) (p * q) := by
  rw [Rat.mul_def']; exact mk_sz (cross_lt hp hq).2.2.2 (cross_lt hp hq).2.2.1 mul_den_ne
theorem fr_inj {p q : Rat} (h : fr p = fr q) : p = q := by
  unfold fr at h
  injection h with h
  injection h with h1 h2
  injection h2 with h2 _
  injection h1 with h1
  injection h2 with h2
  exact Rat.ext h1 (by omega)
/-! ### deep equality of data -/
theorem eqP_int (i j : Int) : eqP (.int i) (.int j) = some (i == j) := by
  simp [eqP, toP, SeqAt.shaped, PyData.canLay0, PyData.depth, PyData.eqv]
theorem eqP_str {x : Str} (h : SeqAt.shaped (.str x) = true) (hb : (x == x) = true) : eqP (.str x) (.str x) = some true := by
  show (if (SeqAt.shaped (.str x) && SeqAt.shaped (.str x)) = true then some (x == x) else none) = _
  rw [h, hb]
  rfl
theorem ne_str {x : Str} (h : SeqAt.shaped (.str x) = true) (hb : (x == x) = true) : opNe (.str x) (.str x) = .ok (.bl false) false := by
  unfold opNe
  rw [eqP_str h hb]
  rfl
theorem eq_str {x : Str} (h : SeqAt.shaped (.str x) = true) (hb : (x == x) = true) : opEq (.str x) (.str x) = .ok (.bl true) false := by
  unfold opEq
  rw [eqP_str h hb]
/-- the list of Euclid's steps -/
theorem gcd_step (a b : Nat) : Nat.gcd a b = Nat.gcd b (a % b) := by rw [Nat.gcd_comm a b, Nat.gcd_rec b a, Nat.gcd_comm]
theorem half_step {a b k : Nat} (hb : b < 2 ^ (k + 1)) (h0 : 0 < a % b) : b % (a % b) < 2 ^ k := by
  rcases Nat.eq_zero_or_pos b with z | z
  · subst z; rw [Nat.zero_mod]; exact Nat.two_pow_pos k
  have hr : a % b < b := Nat.mod_lt _ z
  have h1 : b % (a % b) < a % b := Nat.mod_lt _ h0
  have e : 2 ^ (k + 1) = 2 * 2 ^ k := by rw [Nat.pow_succ]; omega
  by_cases c : a % b < 2 ^ k
  · omega
  · have : b % (a % b) = b - a % b := by
      rw [Nat.mod_eq_sub_mod (by omega), Nat.mod_eq_of_lt (by omega)]
    omega
theorem forL_nx {g : GD} {body : AS → SR} {d : D} {r : List D} {A A1 A2 : AS} (h1 : g d A = some A1) (h2 : body A1 = .nx A2) : forL g body (d :: r) A = forL g body r A2 := by
  conv => lhs; unfold forL
  rw [h1]; dsimp only; rw [h2]
theorem forL_bk {g : GD} {body : AS → SR} {d : D} {r : List D} {A A1 A2 : AS} (h1 : g d A = some A1) (h2 : body A1 = .bk A2) : forL g body (d :: r) A = .nx A2 := by
  conv => lhs; unfold forL
  rw [h1]; dsimp only; rw [h2]
theorem rangeD_succ (lo c : Int) (n : Nat) : rangeD lo c (n + 1) = .int lo :: rangeD (lo + c) c n := rfl
theorem sSeq_nx {f g : AS → SR} {A A1 : AS} (h : f A = .nx A1) : sSeq f g A = g A1 := by unfold sSeq; rw [h]
theorem bits_le {x : Int} {n : Nat} (h : x.natAbs < 2 ^ n) : PySem.Builtin.Int.intBits x ≤ n := by
  unfold PySem.Builtin.Int.intBits
  split
  · exact Nat.zero_le _
  · rename_i h0
    have h0 : x ≠ 0 := by simpa using h0
    have := (Nat.log2_lt (n := x.natAbs) (k := n) (by omega)).mpr h
    omega
theorem lt_bits (x : Int) : x.natAbs < 2 ^ PySem.Builtin.Int.intBits x := by
  unfold PySem.Builtin.Int.intBits
  split
  · rename_i h0
    have h0 : x = 0 := by simpa using h0
    subst h0; decide
  · rename_i h0
    have h0 : x ≠ 0 := by simpa using h0
    exact Nat.lt_log2_self
theorem opMul_ok {i j : Int} (c : cMul i j = true) : opMul (.int i) (.int j) = .ok (.int (i * j)) false := by
  show (if cMul i j = true then FR.ok (.int (i * j)) false else .fail) = _
  rw [if_pos c]
theorem opDiv_ok {i j : Int} (c : cDiv i j = true) : opDiv (.int i) (.int j) = .ok (.int (i / j)) false := by
  show (if cDiv i j = true then FR.ok (.int (i / j)) false else .fail) = _
  rw [if_pos c]
theorem opMod_ok {i j : Int} (c : 0 < j) : opMod (.int i) (.int j) = .ok (.int (i % j)) false := by
  show (if cMod i j = true then FR.ok (.int (i % j)) false else .fail) = _
  rw [if_pos (show cMod i j = true from decide_eq_true c)]
theorem rg1_ok {j : Int} (h : inB j = true) : rg1 [.fz (.int j)] = some (rangeD 0 1 j.toNat) := by
  show (if inB j = true then some (rangeD 0 1 j.toNat) else none) = _
  rw [if_pos h]
/-- a slot that may be written -/
def frS : Sl → Bool
  | .un => true
  | .fz _ => true
  | _ => false
theorem frS_fz (d : D) : frS (.fz d) = true := rfl
theorem frS_un : frS .un = true := rfl
theorem putV_fz {i : Nat} {d : D} {A : AS} (h : frS (sget A i) = true) : putV i (.fz d) A = some (sset A i (.fz d)) := by
  unfold putV
  cases q : sget A i with
  | lk d => rw [q] at h; cases h
  | ow d => rw [q] at h; cases h
  | xn c fs => rw [q] at h; cases h
  | un => rfl
  | fz d => rfl
def putF (s : Sl) (o : Option AS) : Option AS := match s with
  | .lk _ => none
  | _ => o
theorem putV_F (i : Nat) (d : D) (A : AS) : putV i (.fz d) A = putF (sget A i) (some (sset A i (.fz d))) := by
  unfold putV putF
  cases sget A i <;> rfl
theorem putF_fz (d : D) (o : Option AS) : putF (.fz d) o = o := rfl
theorem putF_ow (d : D) (o : Option AS) : putF (.ow d) o = o := rfl
theorem putF_un (o : Option AS) : putF .un o = o := rfl
theorem putF_of {s : Sl} (h : frS s = true) (o : Option AS) : putF s o = o := by cases s <;> first | rfl | cases h
theorem appTo_ok {i : Nat} {d : D} {A : AS} {l : List Int} {z : Int} (q : sget A i = .ow (.lst (l.map D.int))) (hd : d = .int z) (h : l.length < 100000) : appTo i d A = .nx (sset A i (.ow (.lst ((l ++ [z]).map D.int)))) := by
  subst hd
  unfold appTo
  rw [q]
  dsimp only
  rw [if_pos (show (l.map D.int).length < tooLong by rw [List.length_map]; unfold tooLong; omega), List.map_append]
  rfl
/-! ### applied forms -/
theorem opSub_a (d e : D) : opSub d e = opI ycs (fun i j => i - j) d e := rfl
theorem opMul_a (d e : D) : opMul d e = opI cMul (fun i j => i * j) d e := rfl
theorem opDiv_a (d e : D) : opDiv d e = opI cDiv (fun i j => i / j) d e := rfl
theorem opMod_a (d e : D) : opMod d e = opI cMod (fun i j => i % j) d e := rfl
theorem opPow_a (d e : D) : opPow d e = opI cPow (fun i j => i ^ j.toNat) d e := rfl
theorem opLt_a (d e : D) : opLt d e = opJ (fun i j => decide (i < j)) d e := rfl
theorem opLe_a (d e : D) : opLe d e = opJ (fun i j => decide (i ≤ j)) d e := rfl
theorem opGt_a (d e : D) : opGt d e = opJ (fun i j => decide (j < i)) d e := rfl
theorem opGe_a (d e : D) : opGe d e = opJ (fun i j => decide (j ≤ i)) d e := rfl
theorem sPar_a (i j : Nat) (f : AS → AR) (A : AS) : sPar i j f A = sParW (put2 i j) f A := rfl
theorem sPar3_a (i j l : Nat) (f : AS → AR) (A : AS) : sPar3 i j l f A = sParW (put3 i j l) f A := rfl
theorem at2_0 (a b : D) : L2.atI [a, b] 0 = some a := rfl
theorem at2_1 (a b : D) : L2.atI [a, b] 1 = some b := rfl
theorem at3_0 (a b c : D) : L2.atI [a, b, c] 0 = some a := rfl
theorem at3_1 (a b c : D) : L2.atI [a, b, c] 1 = some b := rfl
theorem at3_2 (a b c : D) : L2.atI [a, b, c] 2 = some c := rfl
end MR

namespace Lk54
open PySem PySem.Spec PyProof.Rows L2 MR
/-! ### the text -/
def topS (i : Nat) : Stmt := PySem.Challenge.pw_mergerates_k54_triangle_of_cuts.main.body.getD i (.Pass ⟨0, 0, 0, 0⟩)
def inCls : Stmt → Stmt
  | .ClassDef (body := b) .. => b.getD 0 (.Pass ⟨0, 0, 0, 0⟩)
  | s => s
abbrev c_BadNumber : Stmt := inCls (topS 3)
abbrev c_BadTable : Stmt := inCls (topS 4)
abbrev s_whole_number : Stmt := topS 6
abbrev s_shared_divisor : Stmt := topS 7
abbrev s_is_amount : Stmt := topS 8
abbrev s_as_fraction : Stmt := topS 9
abbrev s_checked_number : Stmt := topS 10
abbrev s_checked_amount : Stmt := topS 11
abbrev s_reduced : Stmt := topS 12
abbrev s_added : Stmt := topS 13
abbrev s_taken : Stmt := topS 14
abbrev s_product_of : Stmt := topS 15
abbrev s_total : Stmt := topS 16
abbrev s_checked_size : Stmt := topS 18
abbrev s_is_finer : Stmt := topS 19
abbrev s_partings : Stmt := topS 20
abbrev s_checked_table : Stmt := topS 22
abbrev s_colour_row : Stmt := topS 24
abbrev s_exit_at : Stmt := topS 25
abbrev s_triangle : Stmt := topS 27
abbrev s_from_triangle : Stmt := topS 28
abbrev s_cuts : Stmt := topS 30
abbrev s_cut_rates : Stmt := topS 31
abbrev s__law_draws : Stmt := topS 33
abbrev s__law_pick : Stmt := topS 34
abbrev s__law_all : Stmt := topS 35
abbrev s__law_many : Stmt := topS 36
abbrev s__law_finer : Stmt := topS 37
abbrev s__law_gcd : Stmt := topS 38
abbrev s__law_frac : Stmt := topS 39
abbrev s__law_plus : Stmt := topS 40
abbrev s__law_minus : Stmt := topS 41
abbrev s__law_times : Stmt := topS 42
abbrev s__law_less : Stmt := topS 43
abbrev s__law_handed : Stmt := topS 44
abbrev s__law_cuts : Stmt := topS 45
abbrev s__law_leave : Stmt := topS 46
abbrev s__law_amounts : Stmt := topS 47
abbrev s__law_weighed : Stmt := topS 48
abbrev s__law_whole : Stmt := topS 49
abbrev s__law_refused : Stmt := topS 50
abbrev s_law : Stmt := topS 51
theorem cs_BadNumber : FnScope ["self", "word"] ["self", "word"] (defScope c_BadNumber) := ⟨rfl, rfl, rfl, by decide +kernel, rfl, by decide +kernel, by decide +kernel⟩
theorem cs_BadTable : FnScope ["self", "place"] ["self", "place"] (defScope c_BadTable) := ⟨rfl, rfl, rfl, by decide +kernel, rfl, by decide +kernel, by decide +kernel⟩
theorem sc_whole_number : FnScope ["x"] ["x"] (defScope s_whole_number) := ⟨rfl, rfl, rfl, by decide +kernel, rfl, by decide +kernel, by decide +kernel⟩
theorem sc_shared_divisor : FnScope ["one", "two", "high", "low"] ["one", "two"] (defScope s_shared_divisor) := ⟨rfl, rfl, rfl, by decide +kernel, rfl, by decide +kernel, by decide +kernel⟩
theorem sc_is_amount : FnScope ["x", "top", "bottom"] ["x"] (defScope s_is_amount) := ⟨rfl, rfl, rfl, by decide +kernel, rfl, by decide +kernel, by decide +kernel⟩
theorem sc_as_fraction : FnScope ["x"] ["x"] (defScope s_as_fraction) := ⟨rfl, rfl, rfl, by decide +kernel, rfl, by decide +kernel, by decide +kernel⟩
theorem sc_checked_number : FnScope ["x", "low", "high", "word"] ["x", "low", "high", "word"] (defScope s_checked_number) := ⟨rfl, rfl, rfl, by decide +kernel, rfl, by decide +kernel, by decide +kernel⟩
theorem sc_checked_amount : FnScope ["x", "word"] ["x", "word"] (defScope s_checked_amount) := ⟨rfl, rfl, rfl, by decide +kernel, rfl, by decide +kernel, by decide +kernel⟩
theorem sc_reduced : FnScope ["top", "bottom", "shared"] ["top", "bottom"] (defScope s_reduced) := ⟨rfl, rfl, rfl, by decide +kernel, rfl, by decide +kernel, by decide +kernel⟩
theorem sc_added : FnScope ["f", "g"] ["f", "g"] (defScope s_added) := ⟨rfl, rfl, rfl, by decide +kernel, rfl, by decide +kernel, by decide +kernel⟩
theorem sc_taken : FnScope ["f", "g"] ["f", "g"] (defScope s_taken) := ⟨rfl, rfl, rfl, by decide +kernel, rfl, by decide +kernel, by decide +kernel⟩
theorem sc_product_of : FnScope ["f", "g"] ["f", "g"] (defScope s_product_of) := ⟨rfl, rfl, rfl, by decide +kernel, rfl, by decide +kernel, by decide +kernel⟩
theorem sc_total : FnScope ["rest", "found", "place", "one"] ["rest"] (defScope s_total) := ⟨rfl, rfl, rfl, by decide +kernel, rfl, by decide +kernel, by decide +kernel⟩
theorem sc_checked_size : FnScope ["n", "word"] ["n", "word"] (defScope s_checked_size) := ⟨rfl, rfl, rfl, by decide +kernel, rfl, by decide +kernel, by decide +kernel⟩
theorem sc_is_finer : FnScope ["p", "r", "to", "label", "other"] ["p", "r"] (defScope s_is_finer) := ⟨rfl, rfl, rfl, by decide +kernel, rfl, by decide +kernel, by decide +kernel⟩
theorem sc_partings : FnScope ["n", "rows", "_", "row", "label"] ["n"] (defScope s_partings) := ⟨rfl, rfl, rfl, by decide +kernel, rfl, by decide +kernel, by decide +kernel⟩
theorem sc_checked_table : FnScope ["n", "table", "place", "one"] ["n", "table"] (defScope s_checked_table) := ⟨rfl, rfl, rfl, by decide +kernel, rfl, by decide +kernel, by decide +kernel⟩
theorem sc_colour_row : FnScope ["b", "table", "told"] ["b", "table"] (defScope s_colour_row) := ⟨rfl, rfl, rfl, by decide +kernel, rfl, by decide +kernel, by decide +kernel⟩
theorem sc_exit_at : FnScope ["told", "t", "found", "x", "number"] ["told", "t"] (defScope s_exit_at) := ⟨rfl, rfl, rfl, by decide +kernel, rfl, by decide +kernel, by decide +kernel⟩
theorem sc_triangle : FnScope ["first", "second", "third", "words", "rates", "half_sum", "rate", "word"] ["first", "second", "third"] (defScope s_triangle) := ⟨rfl, rfl, rfl, by decide +kernel, rfl, by decide +kernel, by decide +kernel⟩
theorem sc_from_triangle : FnScope ["first", "second", "third", "weight"] ["first", "second", "third"] (defScope s_from_triangle) := ⟨rfl, rfl, rfl, by decide +kernel, rfl, by decide +kernel, by decide +kernel⟩
theorem sc_cuts : FnScope ["n", "t"] ["n"] (defScope s_cuts) := ⟨rfl, rfl, rfl, by decide +kernel, rfl, by decide +kernel, by decide +kernel⟩
theorem sc_cut_rates : FnScope ["n", "row", "rows", "told", "cut"] ["n", "row"] (defScope s_cut_rates) := ⟨rfl, rfl, rfl, by decide +kernel, rfl, by decide +kernel, by decide +kernel⟩
theorem sc__law_draws : FnScope ["_law_script", "_law_out", "_law_at", "_law_cell", "_law_size", "_law_turn", "_law_one", "_law_two"] ["_law_script"] (defScope s__law_draws) := ⟨rfl, rfl, rfl, by decide +kernel, rfl, by decide +kernel, by decide +kernel⟩
theorem sc__law_pick : FnScope ["_law_draws_here", "_law_at", "_law_many_here"] ["_law_draws_here", "_law_at", "_law_many_here"] (defScope s__law_pick) := ⟨rfl, rfl, rfl, by decide +kernel, rfl, by decide +kernel, by decide +kernel⟩
theorem sc__law_all : FnScope ["_law_size", "_law_rows", "_law_k", "_law_longer", "_law_row", "_law_high", "_law_mark"] ["_law_size"] (defScope s__law_all) := ⟨rfl, rfl, rfl, by decide +kernel, rfl, by decide +kernel, by decide +kernel⟩
theorem sc__law_many : FnScope ["_law_p"] ["_law_p"] (defScope s__law_many) := ⟨rfl, rfl, rfl, by decide +kernel, rfl, by decide +kernel, by decide +kernel⟩
theorem sc__law_finer : FnScope ["_law_p", "_law_r", "_law_i", "_law_k"] ["_law_p", "_law_r"] (defScope s__law_finer) := ⟨rfl, rfl, rfl, by decide +kernel, rfl, by decide +kernel, by decide +kernel⟩
theorem sc__law_gcd : FnScope ["_law_one", "_law_two", "_law_high", "_law_low", "_law_turn", "_law_rest"] ["_law_one", "_law_two"] (defScope s__law_gcd) := ⟨rfl, rfl, rfl, by decide +kernel, rfl, by decide +kernel, by decide +kernel⟩
theorem sc__law_frac : FnScope ["_law_top", "_law_bottom", "_law_common"] ["_law_top", "_law_bottom"] (defScope s__law_frac) := ⟨rfl, rfl, rfl, by decide +kernel, rfl, by decide +kernel, by decide +kernel⟩
theorem sc__law_plus : FnScope ["_law_f", "_law_g"] ["_law_f", "_law_g"] (defScope s__law_plus) := ⟨rfl, rfl, rfl, by decide +kernel, rfl, by decide +kernel, by decide +kernel⟩
theorem sc__law_minus : FnScope ["_law_f", "_law_g"] ["_law_f", "_law_g"] (defScope s__law_minus) := ⟨rfl, rfl, rfl, by decide +kernel, rfl, by decide +kernel, by decide +kernel⟩
theorem sc__law_times : FnScope ["_law_f", "_law_g"] ["_law_f", "_law_g"] (defScope s__law_times) := ⟨rfl, rfl, rfl, by decide +kernel, rfl, by decide +kernel, by decide +kernel⟩
theorem sc__law_less : FnScope ["_law_f", "_law_g"] ["_law_f", "_law_g"] (defScope s__law_less) := ⟨rfl, rfl, rfl, by decide +kernel, rfl, by decide +kernel, by decide +kernel⟩
theorem sc__law_handed : FnScope ["_law_numbers", "_law_f"] ["_law_numbers"] (defScope s__law_handed) := ⟨rfl, rfl, rfl, by decide +kernel, rfl, by decide +kernel, by decide +kernel⟩
theorem sc__law_cuts : FnScope ["_law_size", "_law_t"] ["_law_size"] (defScope s__law_cuts) := ⟨rfl, rfl, rfl, by decide +kernel, rfl, by decide +kernel, by decide +kernel⟩
theorem sc__law_leave : FnScope ["_law_size", "_law_row", "_law_t", "_law_out", "_law_every", "_law_k"] ["_law_size", "_law_row", "_law_t"] (defScope s__law_leave) := ⟨rfl, rfl, rfl, by decide +kernel, rfl, by decide +kernel, by decide +kernel⟩
theorem sc__law_amounts : FnScope ["_law_draws_here", "_law_out", "_law_k", "_law_bottom"] ["_law_draws_here"] (defScope s__law_amounts) := ⟨rfl, rfl, rfl, by decide +kernel, rfl, by decide +kernel, by decide +kernel⟩
theorem sc__law_weighed : FnScope ["_law_a", "_law_b", "_law_c", "_law_out", "_law_three"] ["_law_a", "_law_b", "_law_c"] (defScope s__law_weighed) := ⟨rfl, rfl, rfl, by decide +kernel, rfl, by decide +kernel, by decide +kernel⟩
theorem sc__law_whole : FnScope ["_law_a", "_law_b", "_law_c", "_law_mark", "_law_pairs"] ["_law_a", "_law_b", "_law_c"] (defScope s__law_whole) := ⟨rfl, rfl, rfl, by decide +kernel, rfl, by decide +kernel, by decide +kernel⟩
theorem sc__law_refused : FnScope ["_law_a", "_law_b", "_law_c", "_law_sure", "_law_told", "e"] ["_law_a", "_law_b", "_law_c", "_law_sure"] (defScope s__law_refused) := ⟨rfl, rfl, rfl, by decide +kernel, rfl, by decide +kernel, by decide +kernel⟩
theorem sc_law : FnScope ["_law_script", "_law_draws_here", "_law_told", "_law_a", "_law_b", "_law_c", "_law_handed_here", "_law_due", "_law_over", "_law_verdict", "_law_row", "_law_free", "_law_exits", "_law_bad", "_law_k", "_law_t"] ["_law_script"] (defScope s_law) := ⟨rfl, rfl, rfl, by decide +kernel, rfl, by decide +kernel, by decide +kernel⟩
/-- which class is caught by which clause -/
def exT : Nat → Nat → Option Bool
  | 1, 0 => some true
  | 1, 1 => some true
  | 1, 4 => some false
  | 4, 0 => some true
  | 4, 1 => some false
  | 4, 4 => some true
  | _, _ => none
def tbl (C0 C1 C4 : Addr) : Tb := ⟨fun c => match c with
  | 1 => some (C1, ["word"])
  | 4 => some (C4, ["place"])
  | _ => none⟩
structure Bn (mg : Str → Option Value) : Prop where
  z_isinstance : mg "isinstance" = none
  z_int : mg "int" = none
  z_bool : mg "bool" = none
  z_abs : mg "abs" = none
  z_tuple : mg "tuple" = none
  z_len : mg "len" = none
  z_list : mg "list" = none
  z_enumerate : mg "enumerate" = none
  z_zip : mg "zip" = none
  z_range : mg "range" = none
  z_max : mg "max" = none
  z_all : mg "all" = none
  z_min : mg "min" = none
  i_gcd : mg "gcd" = some (.builtin "math.gcd")
structure Exs (P : Program) (w : World) (K : PySem.W.Frag) (mg : Str → Option Value) (base : Heap) (T : Tb) (C0 C1 C4 : Addr) : Prop where
  g_MergeError : mg "MergeError" = some (.ref C0)
  x_MergeError : ∀ c C ns b, T.cls c = some (C, ns) → exT c 0 = some b → PySem.W.exmOne K (.ref C) (.ref C0) = some b
  e_BadNumber : ExcD P w K mg base T 1 "BadNumber" "word"
  g_BadNumber : mg "BadNumber" = some (.ref C1)
  x_BadNumber : ∀ c C ns b, T.cls c = some (C, ns) → exT c 1 = some b → PySem.W.exmOne K (.ref C) (.ref C1) = some b
  e_BadTable : ExcD P w K mg base T 4 "BadTable" "place"
  g_BadTable : mg "BadTable" = some (.ref C4)
  x_BadTable : ∀ c C ns b, T.cls c = some (C, ns) → exT c 4 = some b → PySem.W.exmOne K (.ref C) (.ref C4) = some b
/-! ### what each def computes -/
def g_whole_number : AS → SR := (sRet (eAn (eU (opIsa .tint) (eVar 0)) (eNot (eU (opIsa .tbool) (eVar 0)))))
def F_whole_number : List D → FR := mkF 1 g_whole_number
def g_shared_divisor : AS → SR := (sSeq (sPar 2 3 (aCons (eB bAbs (aCons (eVar 0) aNil)) (aCons (eB bAbs (aCons (eVar 1) aNil)) aNil)))
    (sSeq (sWh (fun A => match sget A 3 with | .fz (.int n) => n.natAbs + 1 | _ => 0) (tst (eOp opGt (eVar 3) (eC (.int 0)))) (sPar 2 3 (aCons (eVar 3) (aCons (eOp opMod (eB bInt (aCons (eVar 2) aNil)) (eVar 3)) aNil))))
    (sRet (eVar 2))))
def F_shared_divisor : List D → FR := mkF 4 g_shared_divisor
def g_is_amount : AS → SR := (sSeq (sIf (tst (eCall F_whole_number (aCons (eVar 0) aNil))) (sRet (eC (.bl true))) sNil)
    (sSeq (sIf (tOrr (tNt (tst (eU (opIsa .ttup) (eVar 0)))) (tst (eOp opNe (eB bLen (aCons (eVar 0) aNil)) (eC (.int 2))))) (sRet (eC (.bl false))) sNil)
    (sSeq (sAsgT (gTpl (gsCons (gNm 1) (gsCons (gNm 2) gsNil))) (eVar 0))
    (sSeq (sIf (tOrr (tNt (tst (eCall F_whole_number (aCons (eVar 1) aNil)))) (tNt (tst (eCall F_whole_number (aCons (eVar 2) aNil))))) (sRet (eC (.bl false))) sNil)
    (sRet (eAn (eOp opGe (eVar 2) (eC (.int 1))) (eOp opEq (eCall F_shared_divisor (aCons (eVar 1) (aCons (eVar 2) aNil))) (eC (.int 1)))))))))
def F_is_amount : List D → FR := mkF 3 g_is_amount
def g_as_fraction : AS → SR := (sSeq (sIf (tst (eU (opIsa .ttup) (eVar 0))) (sRet (eVar 0)) sNil)
    (sRet (eTup (aCons (eVar 0) (aCons (eC (.int 1)) aNil)))))
def F_as_fraction : List D → FR := mkF 1 g_as_fraction
def g_checked_number : AS → SR := (sSeq (sIf (tOrr (tNt (tst (eCall F_whole_number (aCons (eVar 0) aNil)))) (tst (eOp opLt (eVar 0) (eVar 1)))) (sRaise 1 (aCons (eVar 3) aNil)) sNil)
    (sSeq (sIf (tAn (tst (eOp opNis (eVar 2) (eC .non))) (tst (eOp opGt (eVar 0) (eVar 2)))) (sRaise 1 (aCons (eVar 3) aNil)) sNil)
    (sRet (eVar 0))))
def F_checked_number : List D → FR := mkF 4 g_checked_number
def g_checked_amount : AS → SR := (sSeq (sIf (tNt (tst (eCall F_is_amount (aCons (eVar 0) aNil)))) (sRaise 1 (aCons (eVar 1) aNil)) sNil)
    (sRet (eCall F_as_fraction (aCons (eVar 0) aNil))))
def F_checked_amount : List D → FR := mkF 2 g_checked_amount
def g_reduced : AS → SR := (sSeq (sIf (tst (eOp opLt (eVar 1) (eC (.int 0)))) (sPar 0 1 (aCons (eU opNeg (eVar 0)) (aCons (eU opNeg (eVar 1)) aNil))) sNil)
    (sSeq (sAsg 2 (eB bGcd (aCons (eVar 0) (aCons (eVar 1) aNil))))
    (sRet (eTup (aCons (eOp opDiv (eVar 0) (eVar 2)) (aCons (eOp opDiv (eVar 1) (eVar 2)) aNil))))))
def F_reduced : List D → FR := mkF 3 g_reduced
def g_added : AS → SR := (sRet (eCall F_reduced (aCons (eOp opAdd (eOp opMul (eOp opIx (eVar 0) (eC (.int 0))) (eOp opIx (eVar 1) (eC (.int 1)))) (eOp opMul (eOp opIx (eVar 1) (eC (.int 0))) (eOp opIx (eVar 0) (eC (.int 1))))) (aCons (eOp opMul (eOp opIx (eVar 0) (eC (.int 1))) (eOp opIx (eVar 1) (eC (.int 1)))) aNil))))
def F_added : List D → FR := mkF 2 g_added
def g_taken : AS → SR := (sRet (eCall F_reduced (aCons (eOp opSub (eOp opMul (eOp opIx (eVar 0) (eC (.int 0))) (eOp opIx (eVar 1) (eC (.int 1)))) (eOp opMul (eOp opIx (eVar 1) (eC (.int 0))) (eOp opIx (eVar 0) (eC (.int 1))))) (aCons (eOp opMul (eOp opIx (eVar 0) (eC (.int 1))) (eOp opIx (eVar 1) (eC (.int 1)))) aNil))))
def F_taken : List D → FR := mkF 2 g_taken
def g_product_of : AS → SR := (sRet (eCall F_reduced (aCons (eOp opMul (eOp opIx (eVar 0) (eC (.int 0))) (eOp opIx (eVar 1) (eC (.int 0)))) (aCons (eOp opMul (eOp opIx (eVar 0) (eC (.int 1))) (eOp opIx (eVar 1) (eC (.int 1)))) aNil))))
def F_product_of : List D → FR := mkF 2 g_product_of
def g_total : AS → SR := (sSeq (sIf (tNt (tst (eU opIsaLT (eVar 0)))) (sRaise 4 (aCons (eU opNeg (eC (.int 1))) aNil)) sNil)
    (sSeq (sAsg 1 (eTup (aCons (eC (.int 0)) (aCons (eC (.int 1)) aNil))))
    (sSeq (sFor (iEn (aCons (eVar 0) aNil)) (gTpl (gsCons (gNm 2) (gsCons (gNm 3) gsNil))) (sSeq (sIf (tNt (tst (eCall F_is_amount (aCons (eVar 3) aNil)))) (sRaise 4 (aCons (eVar 2) aNil)) sNil)
    (sAsg 1 (eCall F_added (aCons (eVar 1) (aCons (eCall F_as_fraction (aCons (eVar 3) aNil)) aNil))))))
    (sRet (eVar 1)))))
def F_total : List D → FR := mkF 4 g_total
def g_checked_size : AS → SR := (sSeq (sIf (tOrr (tNt (tst (eCall F_whole_number (aCons (eVar 0) aNil)))) (tOrr (tst (eOp opLt (eVar 0) (eC (.int 1)))) (tst (eOp opGt (eVar 0) (eC (.int 6)))))) (sRaise 1 (aCons (eVar 1) aNil)) sNil)
    (sRet (eVar 0)))
def F_checked_size : List D → FR := mkF 2 g_checked_size
def g_is_finer : AS → SR := (sSeq (sAsg 2 eDic0)
    (sSeq (sFor (iZp (aCons (eVar 0) (aCons (eVar 1) aNil))) (gTpl (gsCons (gNm 3) (gsCons (gNm 4) gsNil))) (sIf (tst (eOp opNe (eSetd 2 (eVar 3) (eVar 4)) (eVar 4))) (sRet (eC (.bl false))) sNil))
    (sRet (eC (.bl true)))))
def F_is_finer : List D → FR := mkF 5 g_is_finer
def g_partings : AS → SR := (sSeq (sExpr (eCall F_checked_size (aCons (eVar 0) (aCons (eC (.str "n")) aNil))))
    (sSeq (sAsg 1 (eLst (aCons (eTup (aCons (eC (.int 0)) aNil)) aNil)))
    (sSeq (sFor (iRg rg1 (aCons (eOp opSub (eVar 0) (eC (.int 1))) aNil)) (gNm 2) (sAsg 1 (eNx (eLc2 (iSq (eVar 1)) (gNm 3) tYs (iRg rg1 (aCons (eOp opAdd (eB bMax (aCons (eVar 3) aNil)) (eC (.int 2))) aNil)) (gNm 4) tYs (eOp opAdd (eVar 3) (eTup (aCons (eVar 4) aNil))) [3, 4] [4]))))
    (sRet (eVar 1)))))
def F_partings : List D → FR := mkF 5 g_partings
def g_checked_table : AS → SR := (sSeq (sIf (tOrr (tNt (tst (eU opIsaLT (eVar 1)))) (tst (eOp opNe (eB bLen (aCons (eVar 1) aNil)) (eB bLen (aCons (eCall F_partings (aCons (eVar 0) aNil)) aNil))))) (sRaise 4 (aCons (eU opNeg (eC (.int 1))) aNil)) sNil)
    (sSeq (sFor (iEn (aCons (eVar 1) aNil)) (gTpl (gsCons (gNm 2) (gsCons (gNm 3) gsNil))) (sIf (tNt (tst (eCall F_is_amount (aCons (eVar 3) aNil)))) (sRaise 4 (aCons (eVar 2) aNil)) sNil))
    (sRet (eB bTup (aCons (eLc (iSq (eVar 1)) (gNm 3) tYs (eCall F_as_fraction (aCons (eVar 3) aNil)) [3]) aNil)))))
def F_checked_table : List D → FR := mkF 4 g_checked_table
def g_colour_row : AS → SR := (sSeq (sAsg 2 (eCall F_checked_table (aCons (eVar 0) (aCons (eVar 1) aNil))))
    (sSeq (sIf (tst (eOp opNe (eOp opIx (eVar 2) (eU opNeg (eC (.int 1)))) (eTup (aCons (eC (.int 0)) (aCons (eC (.int 1)) aNil))))) (sRaise 4 (aCons (eOp opSub (eB bLen (aCons (eVar 2) aNil)) (eC (.int 1))) aNil)) sNil)
    (sRet (eVar 2))))
def F_colour_row : List D → FR := mkF 3 g_colour_row
def g_exit_at : AS → SR := (sSeq (sAsg 2 (eTup (aCons (eC (.int 0)) (aCons (eC (.int 1)) aNil))))
    (sSeq (sFor (iZp (aCons (eCall F_partings (aCons (eB bLen (aCons (eVar 1) aNil)) aNil)) (aCons (eVar 0) aNil))) (gTpl (gsCons (gNm 3) (gsCons (gNm 4) gsNil))) (sIf (tAn (tst (eOp opNe (eOp opIx (eVar 4) (eC (.int 0))) (eC (.int 0)))) (tNt (tst (eCall F_is_finer (aCons (eVar 3) (aCons (eVar 1) aNil)))))) (sAsg 2 (eCall F_added (aCons (eVar 2) (aCons (eVar 4) aNil)))) sNil))
    (sRet (eVar 2))))
def F_exit_at : List D → FR := mkF 5 g_exit_at
def g_triangle : AS → SR := (sSeq (sAsg 3 (eTup (aCons (eC (.str "first")) (aCons (eC (.str "second")) (aCons (eC (.str "third")) aNil)))))
    (sSeq (sAsg 4 (eLc (iZp (aCons (eTup (aCons (eVar 0) (aCons (eVar 1) (aCons (eVar 2) aNil)))) (aCons (eVar 3) aNil))) (gTpl (gsCons (gNm 6) (gsCons (gNm 7) gsNil))) tYs (eCall F_checked_amount (aCons (eVar 6) (aCons (eVar 7) aNil))) [6, 7]))
    (sSeq (sAsg 5 (eCall F_product_of (aCons (eCall F_total (aCons (eVar 4) aNil)) (aCons (eTup (aCons (eC (.int 1)) (aCons (eC (.int 2)) aNil))) aNil))))
    (sRet (eB bTup (aCons (eLc (iSq (eVar 4)) (gNm 6) tYs (eCall F_taken (aCons (eVar 5) (aCons (eVar 6) aNil))) [6]) aNil))))))
def F_triangle : List D → FR := mkF 8 g_triangle
def g_from_triangle : AS → SR := (sRet (eB bAll (aCons (eLc (iSq (eCall F_triangle (aCons (eVar 0) (aCons (eVar 1) (aCons (eVar 2) aNil))))) (gNm 3) tYs (eOp opGe (eOp opIx (eVar 3) (eC (.int 0))) (eC (.int 0))) [3]) aNil)))
def F_from_triangle : List D → FR := mkF 4 g_from_triangle
def g_cuts : AS → SR := (sSeq (sExpr (eCall F_checked_number (aCons (eVar 0) (aCons (eC (.int 2)) (aCons (eC (.int 6)) (aCons (eC (.str "n")) aNil))))))
    (sRet (eLc (iSq (eCall F_partings (aCons (eVar 0) aNil))) (gNm 1) (tst (eOp opEq (eB bMax (aCons (eVar 1) aNil)) (eC (.int 1)))) (eVar 1) [1])))
def F_cuts : List D → FR := mkF 2 g_cuts
def g_cut_rates : AS → SR := (sSeq (sAsg 2 (eCall F_cuts (aCons (eVar 0) aNil)))
    (sSeq (sAsg 3 (eCall F_colour_row (aCons (eVar 0) (aCons (eVar 1) aNil))))
    (sRet (eB bTup (aCons (eLc (iSq (eVar 2)) (gNm 4) tYs (eCall F_exit_at (aCons (eVar 3) (aCons (eVar 4) aNil))) [4]) aNil)))))
def F_cut_rates : List D → FR := mkF 5 g_cut_rates
def g__law_draws : AS → SR := (sSeq (sAsg 1 (eLst aNil))
    (sSeq (sFor (iRg rg1 (aCons (eB bMin (aCons (eB bLen (aCons (eVar 0) aNil)) (aCons (eC (.int 63)) aNil))) aNil)) (gNm 2) (sSeq (sAsg 3 (eB bInt (aCons (eOp opIx (eVar 0) (eVar 2)) aNil)))
    (sSeq (sAsg 4 (eB bAbs (aCons (eVar 3) aNil)))
    (sIf (tst (eOp opGe (eVar 4) (eOp opPow (eC (.int 10)) (eC (.int 18))))) (sSeq (sFor (iRg rg1 (aCons (eC (.int 30)) aNil)) (gNm 5) (sIf (tst (eOp opGt (eVar 4) (eC (.int 0)))) (sSeq (sApp 1 (eOp opMod (eB bInt (aCons (eVar 4) aNil)) (eC (.int 100))))
    (sAsg 4 (eOp opDiv (eVar 4) (eC (.int 100))))) sNil))
    (sIf (tst (eOp opLt (eVar 3) (eC (.int 0)))) (sApp 1 (eC (.int 1))) sNil)) (sSeq (sIf (tst (eOp opLt (eVar 3) (eC (.int 0)))) (sAsg 4 (eOp opAdd (eVar 4) (eC (.int 500009)))) sNil)
    (sSeq (sAsg 6 (eOp opMod (eB bInt (aCons (eOp opAdd (eOp opAdd (eOp opMul (eVar 4) (eC (.int 48271))) (eOp opMul (eVar 2) (eC (.int 69621)))) (eC (.int 12345))) aNil)) (eC (.int 2147483647))))
    (sSeq (sAsg 7 (eOp opMod (eB bInt (aCons (eOp opAdd (eOp opAdd (eOp opMul (eVar 6) (eC (.int 16807))) (eOp opMul (eVar 2) (eC (.int 40503)))) (eC (.int 977))) aNil)) (eC (.int 2147483629))))
    (sSeq (sApp 1 (eOp opMod (eB bInt (aCons (eOp opDiv (eVar 6) (eC (.int 64))) aNil)) (eC (.int 100))))
    (sApp 1 (eOp opMod (eB bInt (aCons (eOp opDiv (eVar 7) (eC (.int 128))) aNil)) (eC (.int 100))))))))))))
    (sRet (eVar 1))))
def F__law_draws : List D → FR := mkF 8 g__law_draws
def g__law_pick : AS → SR := (sSeq (sIf (tst (eOp opLt (eVar 1) (eB bLen (aCons (eVar 0) aNil)))) (sRet (eOp opMod (eB bInt (aCons (eOp opIx (eVar 0) (eVar 1)) aNil)) (eVar 2))) sNil)
    (sRet (eC (.int 0))))
def F__law_pick : List D → FR := mkF 3 g__law_pick
def g__law_all : AS → SR := (sSeq (sAsg 1 (eLst (aCons (eLst aNil) aNil)))
    (sSeq (sFor (iRg rg1 (aCons (eVar 0) aNil)) (gNm 2) (sSeq (sAsg 3 (eLst aNil))
    (sSeq (sFor (iSq (eVar 1)) (gNm 4) (sSeq (sAsg 5 (eC (.int 0)))
    (sSeq (sIf (tst (eOp opGt (eB bLen (aCons (eVar 4) aNil)) (eC (.int 0)))) (sAsg 5 (eOp opAdd (eB bMax (aCons (eVar 4) aNil)) (eC (.int 1)))) sNil)
    (sFor (iRg rg1 (aCons (eOp opAdd (eVar 5) (eC (.int 1))) aNil)) (gNm 6) (sApp 3 (eOp opAdd (eVar 4) (eLst (aCons (eVar 6) aNil))))))))
    (sAsg 1 (eB bLst (aCons (eVar 3) aNil))))))
    (sRet (eLc (iSq (eVar 1)) (gNm 4) tYs (eB bTup (aCons (eVar 4) aNil)) [4]))))
def F__law_all : List D → FR := mkF 7 g__law_all
def g__law_many : AS → SR := (sRet (eOp opAdd (eB bMax (aCons (eVar 0) aNil)) (eC (.int 1))))
def F__law_many : List D → FR := mkF 1 g__law_many
def g__law_finer : AS → SR := (sSeq (sFor (iRg rg1 (aCons (eB bLen (aCons (eVar 0) aNil)) aNil)) (gNm 2) (sFor (iRg rg1 (aCons (eVar 2) aNil)) (gNm 3) (sIf (tAn (tst (eOp opEq (eOp opIx (eVar 0) (eVar 2)) (eOp opIx (eVar 0) (eVar 3)))) (tst (eOp opNe (eOp opIx (eVar 1) (eVar 2)) (eOp opIx (eVar 1) (eVar 3))))) (sRet (eC (.bl false))) sNil)))
    (sRet (eC (.bl true))))
def F__law_finer : List D → FR := mkF 4 g__law_finer
def g__law_gcd : AS → SR := (sSeq (sAsg 2 (eB bAbs (aCons (eVar 0) aNil)))
    (sSeq (sAsg 3 (eB bAbs (aCons (eVar 1) aNil)))
    (sSeq (sFor (iRg rg1 (aCons (eOp opAdd (eOp opMul (eC (.int 2)) (eB bMax (aCons (eU opBits (eVar 2)) (aCons (eU opBits (eVar 3)) aNil)))) (eC (.int 10))) aNil)) (gNm 4) (sSeq (sIf (tst (eOp opEq (eVar 3) (eC (.int 0)))) (fun A => .bk A) sNil)
    (sSeq (sAsg 5 (eOp opMod (eB bInt (aCons (eVar 2) aNil)) (eVar 3)))
    (sSeq (sAsg 2 (eVar 3))
    (sAsg 3 (eVar 5))))))
    (sRet (eVar 2)))))
def F__law_gcd : List D → FR := mkF 6 g__law_gcd
def g__law_frac : AS → SR := (sSeq (sAsg 2 (eCall F__law_gcd (aCons (eVar 0) (aCons (eVar 1) aNil))))
    (sSeq (sIf (tst (eOp opLt (eVar 1) (eC (.int 0)))) (sAsg 2 (eU opNeg (eVar 2))) sNil)
    (sRet (eTup (aCons (eOp opDiv (eVar 0) (eVar 2)) (aCons (eOp opDiv (eVar 1) (eVar 2)) aNil))))))
def F__law_frac : List D → FR := mkF 3 g__law_frac
def g__law_plus : AS → SR := (sRet (eCall F__law_frac (aCons (eOp opAdd (eOp opMul (eOp opIx (eVar 0) (eC (.int 0))) (eOp opIx (eVar 1) (eC (.int 1)))) (eOp opMul (eOp opIx (eVar 1) (eC (.int 0))) (eOp opIx (eVar 0) (eC (.int 1))))) (aCons (eOp opMul (eOp opIx (eVar 0) (eC (.int 1))) (eOp opIx (eVar 1) (eC (.int 1)))) aNil))))
def F__law_plus : List D → FR := mkF 2 g__law_plus
def g__law_minus : AS → SR := (sRet (eCall F__law_frac (aCons (eOp opSub (eOp opMul (eOp opIx (eVar 0) (eC (.int 0))) (eOp opIx (eVar 1) (eC (.int 1)))) (eOp opMul (eOp opIx (eVar 1) (eC (.int 0))) (eOp opIx (eVar 0) (eC (.int 1))))) (aCons (eOp opMul (eOp opIx (eVar 0) (eC (.int 1))) (eOp opIx (eVar 1) (eC (.int 1)))) aNil))))
def F__law_minus : List D → FR := mkF 2 g__law_minus
def g__law_times : AS → SR := (sRet (eCall F__law_frac (aCons (eOp opMul (eOp opIx (eVar 0) (eC (.int 0))) (eOp opIx (eVar 1) (eC (.int 0)))) (aCons (eOp opMul (eOp opIx (eVar 0) (eC (.int 1))) (eOp opIx (eVar 1) (eC (.int 1)))) aNil))))
def F__law_times : List D → FR := mkF 2 g__law_times
def g__law_less : AS → SR := (sRet (eOp opLt (eOp opMul (eOp opIx (eVar 0) (eC (.int 0))) (eOp opIx (eVar 1) (eC (.int 1)))) (eOp opMul (eOp opIx (eVar 1) (eC (.int 0))) (eOp opIx (eVar 0) (eC (.int 1))))))
def F__law_less : List D → FR := mkF 2 g__law_less
def g__law_handed : AS → SR := (sRet (eLc (iSq (eVar 0)) (gNm 1) tYs (eIf (tst (eOp opEq (eOp opIx (eVar 1) (eC (.int 1))) (eC (.int 1)))) (eOp opIx (eVar 1) (eC (.int 0))) (eVar 1)) [1]))
def F__law_handed : List D → FR := mkF 2 g__law_handed
def g__law_cuts : AS → SR := (sRet (eLc (iSq (eCall F__law_all (aCons (eVar 0) aNil))) (gNm 1) (tst (eOp opEq (eCall F__law_many (aCons (eVar 1) aNil)) (eC (.int 2)))) (eVar 1) [1]))
def F__law_cuts : List D → FR := mkF 2 g__law_cuts
def g__law_leave : AS → SR := (sSeq (sAsg 3 (eTup (aCons (eC (.int 0)) (aCons (eC (.int 1)) aNil))))
    (sSeq (sAsg 4 (eCall F__law_all (aCons (eVar 0) aNil)))
    (sSeq (sFor (iRg rg1 (aCons (eB bLen (aCons (eVar 4) aNil)) aNil)) (gNm 5) (sIf (tAn (tst (eOp opNe (eOp opIx (eOp opIx (eVar 1) (eVar 5)) (eC (.int 0))) (eC (.int 0)))) (tNt (tst (eCall F__law_finer (aCons (eOp opIx (eVar 4) (eVar 5)) (aCons (eVar 2) aNil)))))) (sAsg 3 (eCall F__law_plus (aCons (eVar 3) (aCons (eOp opIx (eVar 1) (eVar 5)) aNil)))) sNil))
    (sRet (eVar 3)))))
def F__law_leave : List D → FR := mkF 6 g__law_leave
def g__law_amounts : AS → SR := (sSeq (sAsg 1 (eLst aNil))
    (sSeq (sFor (iRg rg1 (aCons (eC (.int 3)) aNil)) (gNm 2) (sSeq (sAsg 3 (eOp opAdd (eC (.int 1)) (eCall F__law_pick (aCons (eVar 0) (aCons (eOp opAdd (eC (.int 4)) (eVar 2)) (aCons (eC (.int 4)) aNil))))))
    (sSeq (sIf (tst (eOp opEq (eCall F__law_pick (aCons (eVar 0) (aCons (eC (.int 0)) (aCons (eC (.int 2)) aNil)))) (eC (.int 0)))) (sAsg 3 (eC (.int 1))) sNil)
    (sApp 1 (eCall F__law_frac (aCons (eOp opSub (eCall F__law_pick (aCons (eVar 0) (aCons (eOp opAdd (eC (.int 1)) (eVar 2)) (aCons (eC (.int 19)) aNil)))) (eC (.int 2))) (aCons (eVar 3) aNil)))))))
    (sSeq (sIf (tst (eOp opEq (eCall F__law_pick (aCons (eVar 0) (aCons (eC (.int 7)) (aCons (eC (.int 20)) aNil)))) (eC (.int 19)))) (sSetIx 1 (eC (.int 0)) (eCall F__law_plus (aCons (eOp opIx (eVar 1) (eC (.int 0))) (aCons (eTup (aCons (eOp opPow (eC (.int 10)) (eC (.int 28))) (aCons (eC (.int 1)) aNil))) aNil)))) sNil)
    (sRet (eVar 1)))))
def F__law_amounts : List D → FR := mkF 4 g__law_amounts
def g__law_weighed : AS → SR := (sSeq (sAsg 3 (eLst aNil))
    (sSeq (sFor (iSq (eLst (aCons (eTup (aCons (eVar 1) (aCons (eVar 2) (aCons (eVar 0) aNil)))) (aCons (eTup (aCons (eVar 0) (aCons (eVar 2) (aCons (eVar 1) aNil)))) (aCons (eTup (aCons (eVar 0) (aCons (eVar 1) (aCons (eVar 2) aNil)))) aNil))))) (gNm 4) (sApp 3 (eCall F__law_times (aCons (eCall F__law_minus (aCons (eCall F__law_plus (aCons (eOp opIx (eVar 4) (eC (.int 0))) (aCons (eOp opIx (eVar 4) (eC (.int 1))) aNil))) (aCons (eOp opIx (eVar 4) (eC (.int 2))) aNil))) (aCons (eTup (aCons (eC (.int 1)) (aCons (eC (.int 2)) aNil))) aNil)))))
    (sRet (eB bTup (aCons (eVar 3) aNil)))))
def F__law_weighed : List D → FR := mkF 5 g__law_weighed
def g__law_whole : AS → SR := (sSeq (sAsg 3 (eOp opMod (eB bInt (aCons (eOp opAdd (eOp opAdd (eVar 0) (eVar 1)) (eVar 2)) aNil)) (eC (.int 2))))
    (sSeq (sAsg 4 (eLst (aCons (eOp opDiv (eOp opSub (eOp opSub (eOp opAdd (eVar 1) (eVar 2)) (eVar 0)) (eVar 3)) (eC (.int 2))) (aCons (eOp opDiv (eOp opSub (eOp opSub (eOp opAdd (eVar 0) (eVar 2)) (eVar 1)) (eVar 3)) (eC (.int 2))) (aCons (eOp opDiv (eOp opSub (eOp opSub (eOp opAdd (eVar 0) (eVar 1)) (eVar 2)) (eVar 3)) (eC (.int 2))) aNil)))))
    (sRet (eTup (aCons (eVar 3) (aCons (eOp opIx (eVar 4) (eC (.int 2))) (aCons (eOp opIx (eVar 4) (eC (.int 1))) (aCons (eOp opIx (eVar 4) (eC (.int 0))) (aCons (eC (.int 0)) aNil)))))))))
def F__law_whole : List D → FR := mkF 5 g__law_whole
def g__law_refused : AS → SR := (sSeq (sAsg 4 (eC .non))
    (sSeq (sTry exT (sIf (tst (eVar 3)) (sExpr (eCall F_from_triangle (aCons (eVar 0) (aCons (eVar 1) (aCons (eVar 2) aNil))))) (sExpr (eCall F_triangle (aCons (eVar 0) (aCons (eVar 1) (aCons (eVar 2) aNil)))))) ((1, some 5, (sAsg 4 (eFld [1] 5))) :: ((0, some 5, (sAsg 4 (eC (.str "other")))) :: [])))
    (sRet (eVar 4))))
def F__law_refused : List D → FR := mkF 6 g__law_refused
def g_law : AS → SR := (sSeq (sAsg 1 (eCall F__law_draws (aCons (eVar 0) aNil)))
    (sSeq (sAsg 2 (eCall F__law_amounts (aCons (eVar 1) aNil)))
    (sSeq (sAsg 3 (eOp opIx (eVar 2) (eC (.int 0))))
    (sSeq (sAsg 4 (eOp opIx (eVar 2) (eC (.int 1))))
    (sSeq (sAsg 5 (eOp opIx (eVar 2) (eC (.int 2))))
    (sSeq (sAsg 6 (eCall F__law_handed (aCons (eVar 2) aNil)))
    (sSeq (sAsg 7 (eCall F__law_weighed (aCons (eVar 3) (aCons (eVar 4) (aCons (eVar 5) aNil)))))
    (sSeq (sIf (tOrr (tst (eOp opNe (eCall F_triangle (aCons (eVar 3) (aCons (eVar 4) (aCons (eVar 5) aNil)))) (eVar 7))) (tst (eOp opNe (eCall F_triangle (aCons (eOp opIx (eVar 6) (eC (.int 0))) (aCons (eOp opIx (eVar 6) (eC (.int 1))) (aCons (eOp opIx (eVar 6) (eC (.int 2))) aNil)))) (eVar 7)))) (sRet (eC (.bl false))) sNil)
    (sSeq (sAsg 8 (eOr (eCall F__law_less (aCons (eCall F__law_plus (aCons (eVar 4) (aCons (eVar 5) aNil))) (aCons (eVar 3) aNil))) (eOr (eCall F__law_less (aCons (eCall F__law_plus (aCons (eVar 3) (aCons (eVar 5) aNil))) (aCons (eVar 4) aNil))) (eCall F__law_less (aCons (eCall F__law_plus (aCons (eVar 3) (aCons (eVar 4) aNil))) (aCons (eVar 5) aNil))))))
    (sSeq (sAsg 9 (eCall F_from_triangle (aCons (eOp opIx (eVar 6) (eC (.int 0))) (aCons (eVar 4) (aCons (eOp opIx (eVar 6) (eC (.int 2))) aNil)))))
    (sSeq (sIf (tAn (tst (eVar 8)) (tst (eOp opNis (eVar 9) (eC (.bl false))))) (sRet (eC (.bl false))) sNil)
    (sSeq (sIf (tAn (tNt (tst (eVar 8))) (tst (eOp opNis (eVar 9) (eC (.bl true))))) (sRet (eC (.bl false))) sNil)
    (sSeq (sIf (tst (eOp opNe (eCall F_cut_rates (aCons (eC (.int 3)) (aCons (eTup (aCons (eC (.int 0)) (aCons (eOp opIx (eVar 7) (eC (.int 2))) (aCons (eOp opIx (eVar 7) (eC (.int 1))) (aCons (eOp opIx (eVar 7) (eC (.int 0))) (aCons (eC (.int 0)) aNil)))))) aNil))) (eTup (aCons (eVar 5) (aCons (eVar 4) (aCons (eVar 3) aNil)))))) (sRet (eC (.bl false))) sNil)
    (sSeq (sIf (tAn (tNt (tst (eVar 8))) (tAn (tst (eOp opEq (eOp opIx (eVar 3) (eC (.int 1))) (eC (.int 1)))) (tAn (tst (eOp opEq (eOp opIx (eVar 4) (eC (.int 1))) (eC (.int 1)))) (tst (eOp opEq (eOp opIx (eVar 5) (eC (.int 1))) (eC (.int 1))))))) (sSeq (sAsg 10 (eCall F__law_whole (aCons (eOp opIx (eVar 3) (eC (.int 0))) (aCons (eOp opIx (eVar 4) (eC (.int 0))) (aCons (eOp opIx (eVar 5) (eC (.int 0))) aNil)))))
    (sIf (tOrr (tst (eOp opLt (eB bMin (aCons (eVar 10) aNil)) (eC (.int 0)))) (tst (eOp opNe (eCall F_cut_rates (aCons (eC (.int 3)) (aCons (eVar 10) aNil))) (eTup (aCons (eVar 5) (aCons (eVar 4) (aCons (eVar 3) aNil))))))) (sRet (eC (.bl false))) sNil)) sNil)
    (sSeq (sAsg 11 (eLc (iRg rg1 (aCons (eC (.int 4)) aNil)) (gNm 14) tYs (eCall F__law_frac (aCons (eCall F__law_pick (aCons (eVar 1) (aCons (eOp opAdd (eC (.int 8)) (eVar 14)) (aCons (eC (.int 10)) aNil)))) (aCons (eOp opAdd (eC (.int 1)) (eCall F__law_pick (aCons (eVar 1) (aCons (eOp opAdd (eC (.int 12)) (eVar 14)) (aCons (eC (.int 3)) aNil))))) aNil))) [14]))
    (sSeq (sAsg 12 (eCall F_cut_rates (aCons (eC (.int 3)) (aCons (eOp opAdd (eVar 11) (eLst (aCons (eC (.int 0)) aNil))) aNil))))
    (sSeq (sIf (tst (eOp opNe (eVar 12) (eB bTup (aCons (eLc (iSq (eCall F__law_cuts (aCons (eC (.int 3)) aNil))) (gNm 15) tYs (eCall F__law_leave (aCons (eC (.int 3)) (aCons (eOp opAdd (eVar 11) (eLst (aCons (eTup (aCons (eC (.int 0)) (aCons (eC (.int 1)) aNil))) aNil))) (aCons (eVar 15) aNil)))) [15]) aNil)))) (sRet (eC (.bl false))) sNil)
    (sSeq (sIf (tst (eOp opNis (eCall F_from_triangle (aCons (eOp opIx (eVar 12) (eC (.int 2))) (aCons (eOp opIx (eVar 12) (eC (.int 1))) (aCons (eOp opIx (eVar 12) (eC (.int 0))) aNil)))) (eC (.bl true)))) (sRet (eC (.bl false))) sNil)
    (sSeq (sAsg 13 (eOp opIx (eLst (aCons (eTup (aCons (eC (.int 2)) (aCons (eC (.int 4)) aNil))) (aCons (eC (.bl true)) (aCons (eC .non) aNil)))) (eCall F__law_pick (aCons (eVar 1) (aCons (eC (.int 16)) (aCons (eC (.int 3)) aNil))))))
    (sSeq (sIf (tOrr (tst (eOp opNe (eCall F__law_refused (aCons (eVar 13) (aCons (eVar 13) (aCons (eVar 4) (aCons (eC (.bl false)) aNil))))) (eC (.str "first")))) (tst (eOp opNe (eCall F__law_refused (aCons (eVar 3) (aCons (eVar 13) (aCons (eVar 13) (aCons (eC (.bl true)) aNil))))) (eC (.str "second"))))) (sRet (eC (.bl false))) sNil)
    (sRet (eAn (eOp opEq (eCall F__law_refused (aCons (eVar 3) (aCons (eVar 4) (aCons (eVar 13) (aCons (eC (.bl true)) aNil))))) (eC (.str "third"))) (eOp opEq (eCall F__law_refused (aCons (eVar 3) (aCons (eVar 4) (aCons (eVar 13) (aCons (eC (.bl false)) aNil))))) (eC (.str "third")))))))))))))))))))))))))
def F_law : List D → FR := mkF 16 g_law
/-! ### each def keeps it -/
section
variable {P : Program} {w : World} {K : PySem.W.Frag} {mg : Str → Option Value} {base : Heap} {T : Tb} {C0 C1 C4 : Addr}
theorem ok_whole_number {f : Addr} {fd : FuncData} (Fn : Fun K "whole_number" "whole_number" s_whole_number f fd) (hm : mg "whole_number" = some (.ref f)) (bd : Binds K fd ["x"] []) (B : Bn mg)  : DefOk P w K mg base T 1 "whole_number" 1 F_whole_number :=
  def_ok Fn sc_whole_number rfl hm bd (N := ["x"]) fun cdv A outer s H E R hR hr => (ss_one (s_ret (se_and (se_isa .tint hR.symm (by rfl) B.z_isinstance (by rfl) B.z_int (by rfl) (se_var (pv 0))) (se_one (se_not (se_isa .tbool hR.symm (by rfl) B.z_isinstance (by rfl) B.z_bool (by rfl) (se_var (pv 0))))))))
theorem ok_shared_divisor {f : Addr} {fd : FuncData} (Fn : Fun K "shared_divisor" "shared_divisor" s_shared_divisor f fd) (hm : mg "shared_divisor" = some (.ref f)) (bd : Binds K fd ["one", "two"] []) (B : Bn mg)  : DefOk P w K mg base T 1 "shared_divisor" 2 F_shared_divisor :=
  def_ok Fn sc_shared_divisor rfl hm bd (N := ["one", "two", "high", "low"]) fun cdv A outer s H E R hR hr => (ss_cons (s_par rfl sc_shared_divisor.nd rfl rfl (by decide) rfl rfl (sa_cons (se_b (pe_callB cr_abs_ok (by rfl) B.z_abs (by rfl) (sa_cons (se_var (pv 0)) sa_nil))) (sa_cons (se_b (pe_callB cr_abs_ok (by rfl) B.z_abs (by rfl) (sa_cons (se_var (pv 1)) sa_nil))) sa_nil)) rfl)
    (ss_cons (s_while (fun A => match sget A 3 with | .fz (.int n) => n.natAbs + 1 | _ => 0) (passes_of rfl) (st_cmp op_gt_ok (se_var (pv 3)) se_int (nomark _)) (ss_one (s_par rfl sc_shared_divisor.nd rfl rfl (by decide) rfl rfl (sa_cons (se_var (pv 3)) (sa_cons (se_op op_mod_ok (se_b (pe_callTy cr_int_ok (by rfl) B.z_int (by rfl) (sa_cons (se_var (pv 2)) sa_nil))) (se_var (pv 3))) sa_nil)) rfl)))
    (ss_one (s_ret (se_var (pv 2))))))
theorem ok_is_amount {f : Addr} {fd : FuncData} (Fn : Fun K "is_amount" "is_amount" s_is_amount f fd) (hm : mg "is_amount" = some (.ref f)) (bd : Binds K fd ["x"] []) (B : Bn mg) (d_whole_number : DefOk P w K mg base T 1 "whole_number" 1 F_whole_number) (d_shared_divisor : DefOk P w K mg base T 1 "shared_divisor" 2 F_shared_divisor) : DefOk P w K mg base T 2 "is_amount" 1 F_is_amount :=
  def_ok Fn sc_is_amount rfl hm bd (N := ["x", "top", "bottom"]) fun cdv A outer s H E R hR hr => (ss_cons (s_if (st_val (se_call d_whole_number hR.symm (hr.mono (by decide)) (fun σ => passAt (takes_of rfl rfl rfl rfl) σ) (by rfl) (sa_cons (se_var (pv 0)) sa_nil) (ar_cons ar_nil))) (ss_one (s_ret se_bl)) ss_nil)
    (ss_cons (s_if (PW.pt (sw_or (st_not (st_val (se_isa .ttup hR.symm (by rfl) B.z_isinstance (by rfl) B.z_tuple (by rfl) (se_var (pv 0))))) (sw_or1 (st_cmp (op_ne_ok hR.symm hr.units) (se_b (pe_callB (cr_len_ok hR.symm) (by rfl) B.z_len (by rfl) (sa_cons (se_var (pv 0)) sa_nil))) se_int (nomark _))))) (ss_one (s_ret se_bl)) ss_nil)
    (ss_cons (s_asgT (se_var (pv 0)) (sg_tpl rfl (sgs_cons (sg_name sc_is_amount.nd rfl (by first | exact .inl rfl | exact .inr rfl)) (sgs_cons (sg_name sc_is_amount.nd rfl (by first | exact .inl rfl | exact .inr rfl)) sgs_nil)) (glen_cons (glen_cons glen_nil)) hR.symm))
    (ss_cons (s_if (PW.pt (sw_or (st_not (st_val (se_call d_whole_number hR.symm (hr.mono (by decide)) (fun σ => passAt (takes_of rfl rfl rfl rfl) σ) (by rfl) (sa_cons (se_var (pv 1)) sa_nil) (ar_cons ar_nil)))) (sw_or1 (st_not (st_val (se_call d_whole_number hR.symm (hr.mono (by decide)) (fun σ => passAt (takes_of rfl rfl rfl rfl) σ) (by rfl) (sa_cons (se_var (pv 2)) sa_nil) (ar_cons ar_nil))))))) (ss_one (s_ret se_bl)) ss_nil)
    (ss_one (s_ret (se_and (se_cmp op_ge_ok (se_var (pv 2)) se_int (nomark _)) (se_one (se_cmp (op_eq_ok hR.symm hr.units) (se_call d_shared_divisor hR.symm (hr.mono (by decide)) (fun σ => passAt (takes_of rfl rfl rfl rfl) σ) (by rfl) (sa_cons (se_var (pv 1)) (sa_cons (se_var (pv 2)) sa_nil)) (ar_cons (ar_cons ar_nil))) se_int (nomark _))))))))))
theorem ok_as_fraction {f : Addr} {fd : FuncData} (Fn : Fun K "as_fraction" "as_fraction" s_as_fraction f fd) (hm : mg "as_fraction" = some (.ref f)) (bd : Binds K fd ["x"] []) (B : Bn mg)  : DefOk P w K mg base T 1 "as_fraction" 1 F_as_fraction :=
  def_ok Fn sc_as_fraction rfl hm bd (N := ["x"]) fun cdv A outer s H E R hR hr => (ss_cons (s_if (st_val (se_isa .ttup hR.symm (by rfl) B.z_isinstance (by rfl) B.z_tuple (by rfl) (se_var (pv 0)))) (ss_one (s_ret (se_var (pv 0)))) ss_nil)
    (ss_one (s_ret (se_tup (sa_cons (se_var (pv 0)) (sa_cons se_int sa_nil)) (ar_cons (ar_cons ar_nil)) (by decide)))))
theorem ok_checked_number {f : Addr} {fd : FuncData} (Fn : Fun K "checked_number" "checked_number" s_checked_number f fd) (hm : mg "checked_number" = some (.ref f)) (bd : Binds K fd ["x", "low", "high", "word"] []) (B : Bn mg) (Ex : Exs P w K mg base T C0 C1 C4) (d_whole_number : DefOk P w K mg base T 1 "whole_number" 1 F_whole_number) : DefOk P w K mg base T 3 "checked_number" 4 F_checked_number :=
  def_ok Fn sc_checked_number rfl hm bd (N := ["x", "low", "high", "word"]) fun cdv A outer s H E R hR hr => (ss_cons (s_if (PW.pt (sw_or (st_not (st_val (se_call d_whole_number hR.symm (hr.mono (by decide)) (fun σ => passAt (takes_of rfl rfl rfl rfl) σ) (by rfl) (sa_cons (se_var (pv 0)) sa_nil) (ar_cons ar_nil)))) (sw_or1 (st_cmp op_lt_ok (se_var (pv 0)) (se_var (pv 1)) (nomark _))))) (ss_one (s_raise hR.symm Ex.e_BadNumber rfl (takes_of rfl rfl rfl rfl) (hr.mono (by decide)) (by rfl) (sa_cons (se_var (pv 3)) sa_nil))) ss_nil)
    (ss_cons (s_if (PW.pt (sw_and (st_cmp op_nis_ok (se_var (pv 2)) se_non (nomark _)) (sw_and1 (st_cmp op_gt_ok (se_var (pv 0)) (se_var (pv 2)) (nomark _))))) (ss_one (s_raise hR.symm Ex.e_BadNumber rfl (takes_of rfl rfl rfl rfl) (hr.mono (by decide)) (by rfl) (sa_cons (se_var (pv 3)) sa_nil))) ss_nil)
    (ss_one (s_ret (se_var (pv 0))))))
theorem ok_checked_amount {f : Addr} {fd : FuncData} (Fn : Fun K "checked_amount" "checked_amount" s_checked_amount f fd) (hm : mg "checked_amount" = some (.ref f)) (bd : Binds K fd ["x", "word"] []) (B : Bn mg) (Ex : Exs P w K mg base T C0 C1 C4) (d_is_amount : DefOk P w K mg base T 2 "is_amount" 1 F_is_amount) (d_as_fraction : DefOk P w K mg base T 1 "as_fraction" 1 F_as_fraction) : DefOk P w K mg base T 3 "checked_amount" 2 F_checked_amount :=
  def_ok Fn sc_checked_amount rfl hm bd (N := ["x", "word"]) fun cdv A outer s H E R hR hr => (ss_cons (s_if (st_not (st_val (se_call d_is_amount hR.symm (hr.mono (by decide)) (fun σ => passAt (takes_of rfl rfl rfl rfl) σ) (by rfl) (sa_cons (se_var (pv 0)) sa_nil) (ar_cons ar_nil)))) (ss_one (s_raise hR.symm Ex.e_BadNumber rfl (takes_of rfl rfl rfl rfl) (hr.mono (by decide)) (by rfl) (sa_cons (se_var (pv 1)) sa_nil))) ss_nil)
    (ss_one (s_ret (se_call d_as_fraction hR.symm (hr.mono (by decide)) (fun σ => passAt (takes_of rfl rfl rfl rfl) σ) (by rfl) (sa_cons (se_var (pv 0)) sa_nil) (ar_cons ar_nil)))))
theorem ok_reduced {f : Addr} {fd : FuncData} (Fn : Fun K "reduced" "reduced" s_reduced f fd) (hm : mg "reduced" = some (.ref f)) (bd : Binds K fd ["top", "bottom"] []) (B : Bn mg)  : DefOk P w K mg base T 1 "reduced" 2 F_reduced :=
  def_ok Fn sc_reduced rfl hm bd (N := ["top", "bottom", "shared"]) fun cdv A outer s H E R hR hr => (ss_cons (s_if (st_cmp op_lt_ok (se_var (pv 1)) se_int (nomark _)) (ss_one (s_par rfl sc_reduced.nd rfl rfl (by decide) rfl rfl (sa_cons (se_u un_neg_ok (se_var (pv 0))) (sa_cons (se_u un_neg_ok (se_var (pv 1))) sa_nil)) rfl)) ss_nil)
    (ss_cons (s_set sc_reduced.nd rfl (by first | exact .inl rfl | exact .inr rfl) (se_b (pe_callBfun cr_gcd_ok (by rfl) B.i_gcd (sa_cons (se_var (pv 0)) (sa_cons (se_var (pv 1)) sa_nil)))))
    (ss_one (s_ret (se_tup (sa_cons (se_op op_div_ok (se_var (pv 0)) (se_var (pv 2))) (sa_cons (se_op op_div_ok (se_var (pv 1)) (se_var (pv 2))) sa_nil)) (ar_cons (ar_cons ar_nil)) (by decide))))))
theorem ok_added {f : Addr} {fd : FuncData} (Fn : Fun K "added" "added" s_added f fd) (hm : mg "added" = some (.ref f)) (bd : Binds K fd ["f", "g"] []) (B : Bn mg) (d_reduced : DefOk P w K mg base T 1 "reduced" 2 F_reduced) : DefOk P w K mg base T 2 "added" 2 F_added :=
  def_ok Fn sc_added rfl hm bd (N := ["f", "g"]) fun cdv A outer s H E R hR hr => (ss_one (s_ret (se_call d_reduced hR.symm (hr.mono (by decide)) (fun σ => passAt (takes_of rfl rfl rfl rfl) σ) (by rfl) (sa_cons (se_op (op_add_ok hR.symm) (se_op op_mul_ok (se_ix (op_ix_ok hR.symm) (se_var (pv 0)) se_int (fun _ _ => rfl)) (se_ix (op_ix_ok hR.symm) (se_var (pv 1)) se_int (fun _ _ => rfl))) (se_op op_mul_ok (se_ix (op_ix_ok hR.symm) (se_var (pv 1)) se_int (fun _ _ => rfl)) (se_ix (op_ix_ok hR.symm) (se_var (pv 0)) se_int (fun _ _ => rfl)))) (sa_cons (se_op op_mul_ok (se_ix (op_ix_ok hR.symm) (se_var (pv 0)) se_int (fun _ _ => rfl)) (se_ix (op_ix_ok hR.symm) (se_var (pv 1)) se_int (fun _ _ => rfl))) sa_nil)) (ar_cons (ar_cons ar_nil)))))
theorem ok_taken {f : Addr} {fd : FuncData} (Fn : Fun K "taken" "taken" s_taken f fd) (hm : mg "taken" = some (.ref f)) (bd : Binds K fd ["f", "g"] []) (B : Bn mg) (d_reduced : DefOk P w K mg base T 1 "reduced" 2 F_reduced) : DefOk P w K mg base T 2 "taken" 2 F_taken :=
  def_ok Fn sc_taken rfl hm bd (N := ["f", "g"]) fun cdv A outer s H E R hR hr => (ss_one (s_ret (se_call d_reduced hR.symm (hr.mono (by decide)) (fun σ => passAt (takes_of rfl rfl rfl rfl) σ) (by rfl) (sa_cons (se_op op_sub_ok (se_op op_mul_ok (se_ix (op_ix_ok hR.symm) (se_var (pv 0)) se_int (fun _ _ => rfl)) (se_ix (op_ix_ok hR.symm) (se_var (pv 1)) se_int (fun _ _ => rfl))) (se_op op_mul_ok (se_ix (op_ix_ok hR.symm) (se_var (pv 1)) se_int (fun _ _ => rfl)) (se_ix (op_ix_ok hR.symm) (se_var (pv 0)) se_int (fun _ _ => rfl)))) (sa_cons (se_op op_mul_ok (se_ix (op_ix_ok hR.symm) (se_var (pv 0)) se_int (fun _ _ => rfl)) (se_ix (op_ix_ok hR.symm) (se_var (pv 1)) se_int (fun _ _ => rfl))) sa_nil)) (ar_cons (ar_cons ar_nil)))))
theorem ok_product_of {f : Addr} {fd : FuncData} (Fn : Fun K "product_of" "product_of" s_product_of f fd) (hm : mg "product_of" = some (.ref f)) (bd : Binds K fd ["f", "g"] []) (B : Bn mg) (d_reduced : DefOk P w K mg base T 1 "reduced" 2 F_reduced) : DefOk P w K mg base T 2 "product_of" 2 F_product_of :=
  def_ok Fn sc_product_of rfl hm bd (N := ["f", "g"]) fun cdv A outer s H E R hR hr => (ss_one (s_ret (se_call d_reduced hR.symm (hr.mono (by decide)) (fun σ => passAt (takes_of rfl rfl rfl rfl) σ) (by rfl) (sa_cons (se_op op_mul_ok (se_ix (op_ix_ok hR.symm) (se_var (pv 0)) se_int (fun _ _ => rfl)) (se_ix (op_ix_ok hR.symm) (se_var (pv 1)) se_int (fun _ _ => rfl))) (sa_cons (se_op op_mul_ok (se_ix (op_ix_ok hR.symm) (se_var (pv 0)) se_int (fun _ _ => rfl)) (se_ix (op_ix_ok hR.symm) (se_var (pv 1)) se_int (fun _ _ => rfl))) sa_nil)) (ar_cons (ar_cons ar_nil)))))
theorem ok_total {f : Addr} {fd : FuncData} (Fn : Fun K "total" "total" s_total f fd) (hm : mg "total" = some (.ref f)) (bd : Binds K fd ["rest"] []) (B : Bn mg) (Ex : Exs P w K mg base T C0 C1 C4) (d_is_amount : DefOk P w K mg base T 2 "is_amount" 1 F_is_amount) (d_as_fraction : DefOk P w K mg base T 1 "as_fraction" 1 F_as_fraction) (d_added : DefOk P w K mg base T 2 "added" 2 F_added) : DefOk P w K mg base T 3 "total" 1 F_total :=
  def_ok Fn sc_total rfl hm bd (N := ["rest", "found", "place", "one"]) fun cdv A outer s H E R hR hr => (ss_cons (s_if (st_not (st_val (se_isaLT hR.symm (by rfl) B.z_isinstance (by rfl) B.z_list (by rfl) B.z_tuple (se_var (pv 0))))) (ss_one (s_raise hR.symm Ex.e_BadTable rfl (takes_of rfl rfl rfl rfl) (hr.mono (by decide)) (by rfl) (sa_cons (se_u un_neg_ok se_int) sa_nil))) ss_nil)
    (ss_cons (s_set sc_total.nd rfl (by first | exact .inl rfl | exact .inr rfl) (se_tup (sa_cons se_int (sa_cons se_int sa_nil)) (ar_cons (ar_cons ar_nil)) (by decide)))
    (ss_cons (s_for (passes_of rfl) rfl (si_enum hR.symm (by rfl) B.z_enumerate (sa_cons (se_var (pv 0)) sa_nil)) (sg_tpl rfl (sgs_cons (sg_name sc_total.nd rfl (by first | exact .inl rfl | exact .inr rfl)) (sgs_cons (sg_name sc_total.nd rfl (by first | exact .inl rfl | exact .inr rfl)) sgs_nil)) (glen_cons (glen_cons glen_nil)) hR.symm) (ss_cons (s_if (st_not (st_val (se_call d_is_amount hR.symm (hr.mono (by decide)) (fun σ => passAt (takes_of rfl rfl rfl rfl) σ) (by rfl) (sa_cons (se_var (pv 3)) sa_nil) (ar_cons ar_nil)))) (ss_one (s_raise hR.symm Ex.e_BadTable rfl (takes_of rfl rfl rfl rfl) (hr.mono (by decide)) (by rfl) (sa_cons (se_var (pv 2)) sa_nil))) ss_nil)
    (ss_one (s_set sc_total.nd rfl (by first | exact .inl rfl | exact .inr rfl) (se_call d_added hR.symm (hr.mono (by decide)) (fun σ => passAt (takes_of rfl rfl rfl rfl) σ) (by rfl) (sa_cons (se_var (pv 1)) (sa_cons (se_call d_as_fraction hR.symm (hr.mono (by decide)) (fun σ => passAt (takes_of rfl rfl rfl rfl) σ) (by rfl) (sa_cons (se_var (pv 3)) sa_nil) (ar_cons ar_nil)) sa_nil)) (ar_cons (ar_cons ar_nil)))))))
    (ss_one (s_ret (se_var (pv 1)))))))
theorem ok_checked_size {f : Addr} {fd : FuncData} (Fn : Fun K "checked_size" "checked_size" s_checked_size f fd) (hm : mg "checked_size" = some (.ref f)) (bd : Binds K fd ["n", "word"] []) (B : Bn mg) (Ex : Exs P w K mg base T C0 C1 C4) (d_whole_number : DefOk P w K mg base T 1 "whole_number" 1 F_whole_number) : DefOk P w K mg base T 3 "checked_size" 2 F_checked_size :=
  def_ok Fn sc_checked_size rfl hm bd (N := ["n", "word"]) fun cdv A outer s H E R hR hr => (ss_cons (s_if (PW.pt (sw_or (st_not (st_val (se_call d_whole_number hR.symm (hr.mono (by decide)) (fun σ => passAt (takes_of rfl rfl rfl rfl) σ) (by rfl) (sa_cons (se_var (pv 0)) sa_nil) (ar_cons ar_nil)))) (sw_or (st_cmp op_lt_ok (se_var (pv 0)) se_int (nomark _)) (sw_or1 (st_cmp op_gt_ok (se_var (pv 0)) se_int (nomark _)))))) (ss_one (s_raise hR.symm Ex.e_BadNumber rfl (takes_of rfl rfl rfl rfl) (hr.mono (by decide)) (by rfl) (sa_cons (se_var (pv 1)) sa_nil))) ss_nil)
    (ss_one (s_ret (se_var (pv 0)))))
theorem ok_is_finer {f : Addr} {fd : FuncData} (Fn : Fun K "is_finer" "is_finer" s_is_finer f fd) (hm : mg "is_finer" = some (.ref f)) (bd : Binds K fd ["p", "r"] []) (B : Bn mg)  : DefOk P w K mg base T 1 "is_finer" 2 F_is_finer :=
  def_ok Fn sc_is_finer rfl hm bd (N := ["p", "r", "to", "label", "other"]) fun cdv A outer s H E R hR hr => (ss_cons (s_set sc_is_finer.nd rfl (by first | exact .inl rfl | exact .inr rfl) se_dic0)
    (ss_cons (s_for (passes_of rfl) rfl (si_zip hR.symm (by rfl) B.z_zip (sa_cons (se_var (pv 0)) (sa_cons (se_var (pv 1)) sa_nil))) (sg_tpl rfl (sgs_cons (sg_name sc_is_finer.nd rfl (by first | exact .inl rfl | exact .inr rfl)) (sgs_cons (sg_name sc_is_finer.nd rfl (by first | exact .inl rfl | exact .inr rfl)) sgs_nil)) (glen_cons (glen_cons glen_nil)) hR.symm) (ss_one (s_if (st_cmp (op_ne_ok hR.symm hr.units) (se_setd (pv 2) (se_var (pv 3)) (se_var (pv 4)) ⟨rfl, rfl, rfl, rfl⟩) (se_var (pv 4)) (nomark _)) (ss_one (s_ret se_bl)) ss_nil)))
    (ss_one (s_ret se_bl))))
theorem ok_partings {f : Addr} {fd : FuncData} (Fn : Fun K "partings" "partings" s_partings f fd) (hm : mg "partings" = some (.ref f)) (bd : Binds K fd ["n"] []) (B : Bn mg) (d_checked_size : DefOk P w K mg base T 3 "checked_size" 2 F_checked_size) : DefOk P w K mg base T 4 "partings" 1 F_partings :=
  def_ok Fn sc_partings rfl hm bd (N := ["n", "rows", "_", "row", "label"]) fun cdv A outer s H E R hR hr => (ss_cons (s_expr (se_call d_checked_size hR.symm (hr.mono (by decide)) (fun σ => passAt (takes_of rfl rfl rfl rfl) σ) (by rfl) (sa_cons (se_var (pv 0)) (sa_cons se_str sa_nil)) (ar_cons (ar_cons ar_nil))))
    (ss_cons (s_set sc_partings.nd rfl (by first | exact .inl rfl | exact .inr rfl) (se_lst (sa_cons (se_tup (sa_cons se_int sa_nil) (ar_cons ar_nil) (by decide)) sa_nil) (ar_cons ar_nil) (by decide)))
    (ss_cons (s_for (passes_of rfl) rfl (si_range1 (by rfl) B.z_range (sa_cons (se_op op_sub_ok (se_var (pv 0)) se_int) sa_nil)) (sg_name sc_partings.nd rfl (by first | exact .inl rfl | exact .inr rfl)) (ss_one (s_setLc2 (own := [("row", 3), ("label", 4)]) (vs1 := [4]) (wr := [3]) (wr1 := [4]) rfl sc_partings.nd rfl rfl rfl (si_seq hR.symm (se_var (pv 1))) (show BlkOk ["n", "rows", "_", "row", "label"] (defScope s_partings) _ _ from ⟨rfl, by decide +kernel, by decide +kernel, by decide +kernel, by decide +kernel⟩) ⟨fun s H C cl fp R1 hK1 => ⟨(sg_name sc_partings.nd rfl (by first | exact .inl rfl | exact .inr rfl)), sts_nil, (si_range1 (by rfl) B.z_range (sa_cons (se_op (op_add_ok (hR.symm.trans hK1.symm)) (se_b (pe_callB (cr_max_ok (hR.symm.trans hK1.symm) rfl) (by rfl) B.z_max (by rfl) (sa_cons (se_var (pv 3)) sa_nil))) se_int) sa_nil)), (sg_name sc_partings.nd rfl (by first | exact .inl rfl | exact .inr rfl)), sts_nil, (se_op (op_add_ok (hR.symm.trans hK1.symm)) (se_var (pv 3)) (se_tup (sa_cons (se_var (pv 4)) sa_nil) (ar_cons ar_nil) (by decide)))⟩⟩ (by decide) (by decide) (by decide))))
    (ss_one (s_ret (se_var (pv 1)))))))
theorem ok_checked_table {f : Addr} {fd : FuncData} (Fn : Fun K "checked_table" "checked_table" s_checked_table f fd) (hm : mg "checked_table" = some (.ref f)) (bd : Binds K fd ["n", "table"] []) (B : Bn mg) (Ex : Exs P w K mg base T C0 C1 C4) (d_is_amount : DefOk P w K mg base T 2 "is_amount" 1 F_is_amount) (d_as_fraction : DefOk P w K mg base T 1 "as_fraction" 1 F_as_fraction) (d_partings : DefOk P w K mg base T 4 "partings" 1 F_partings) : DefOk P w K mg base T 5 "checked_table" 2 F_checked_table :=
  def_ok Fn sc_checked_table rfl hm bd (N := ["n", "table", "place", "one"]) fun cdv A outer s H E R hR hr => (ss_cons (s_if (PW.pt (sw_or (st_not (st_val (se_isaLT hR.symm (by rfl) B.z_isinstance (by rfl) B.z_list (by rfl) B.z_tuple (se_var (pv 1))))) (sw_or1 (st_cmp (op_ne_ok hR.symm hr.units) (se_b (pe_callB (cr_len_ok hR.symm) (by rfl) B.z_len (by rfl) (sa_cons (se_var (pv 1)) sa_nil))) (se_b (pe_callB (cr_len_ok hR.symm) (by rfl) B.z_len (by rfl) (sa_cons (se_call d_partings hR.symm (hr.mono (by decide)) (fun σ => passAt (takes_of rfl rfl rfl rfl) σ) (by rfl) (sa_cons (se_var (pv 0)) sa_nil) (ar_cons ar_nil)) sa_nil))) (nomark _))))) (ss_one (s_raise hR.symm Ex.e_BadTable rfl (takes_of rfl rfl rfl rfl) (hr.mono (by decide)) (by rfl) (sa_cons (se_u un_neg_ok se_int) sa_nil))) ss_nil)
    (ss_cons (s_for (passes_of rfl) rfl (si_enum hR.symm (by rfl) B.z_enumerate (sa_cons (se_var (pv 1)) sa_nil)) (sg_tpl rfl (sgs_cons (sg_name sc_checked_table.nd rfl (by first | exact .inl rfl | exact .inr rfl)) (sgs_cons (sg_name sc_checked_table.nd rfl (by first | exact .inl rfl | exact .inr rfl)) sgs_nil)) (glen_cons (glen_cons glen_nil)) hR.symm) (ss_one (s_if (st_not (st_val (se_call d_is_amount hR.symm (hr.mono (by decide)) (fun σ => passAt (takes_of rfl rfl rfl rfl) σ) (by rfl) (sa_cons (se_var (pv 3)) sa_nil) (ar_cons ar_nil)))) (ss_one (s_raise hR.symm Ex.e_BadTable rfl (takes_of rfl rfl rfl rfl) (hr.mono (by decide)) (by rfl) (sa_cons (se_var (pv 2)) sa_nil))) ss_nil)))
    (ss_one (s_ret (se_b (pe_callTy (cr_tup_ok hR.symm) (by rfl) B.z_tuple (by rfl) (sa_cons (se_lc (own := [("one", 3)]) (wr := [3]) (takes_of rfl rfl rfl rfl) rfl rfl rfl sc_checked_table.nd (si_seq hR.symm (se_var (pv 1))) (show BlkOk ["n", "table", "place", "one"] (defScope s_checked_table) _ _ from ⟨rfl, by decide +kernel, by decide +kernel, by decide +kernel, by decide +kernel⟩) ⟨fun s H C cl fp xe W R1 hK1 air1 => ⟨(sg_name sc_checked_table.nd rfl (by first | exact .inl rfl | exact .inr rfl)), sts_nil, (se_call d_as_fraction (hR.symm.trans hK1.symm) (hr.mono (by decide)) air1 (by rfl) (sa_cons (se_var (pv 3)) sa_nil) (ar_cons ar_nil))⟩⟩ (by decide)) sa_nil)))))))
theorem ok_colour_row {f : Addr} {fd : FuncData} (Fn : Fun K "colour_row" "colour_row" s_colour_row f fd) (hm : mg "colour_row" = some (.ref f)) (bd : Binds K fd ["b", "table"] []) (B : Bn mg) (Ex : Exs P w K mg base T C0 C1 C4) (d_checked_table : DefOk P w K mg base T 5 "checked_table" 2 F_checked_table) : DefOk P w K mg base T 6 "colour_row" 2 F_colour_row :=
  def_ok Fn sc_colour_row rfl hm bd (N := ["b", "table", "told"]) fun cdv A outer s H E R hR hr => (ss_cons (s_set sc_colour_row.nd rfl (by first | exact .inl rfl | exact .inr rfl) (se_call d_checked_table hR.symm (hr.mono (by decide)) (fun σ => passAt (takes_of rfl rfl rfl rfl) σ) (by rfl) (sa_cons (se_var (pv 0)) (sa_cons (se_var (pv 1)) sa_nil)) (ar_cons (ar_cons ar_nil))))
    (ss_cons (s_if (st_cmp (op_ne_ok hR.symm hr.units) (se_ix (op_ix_ok hR.symm) (se_var (pv 2)) (se_u un_neg_ok se_int) (fun _ _ => rfl)) (se_tup (sa_cons se_int (sa_cons se_int sa_nil)) (ar_cons (ar_cons ar_nil)) (by decide)) (nomark _)) (ss_one (s_raise hR.symm Ex.e_BadTable rfl (takes_of rfl rfl rfl rfl) (hr.mono (by decide)) (by rfl) (sa_cons (se_op op_sub_ok (se_b (pe_callB (cr_len_ok hR.symm) (by rfl) B.z_len (by rfl) (sa_cons (se_var (pv 2)) sa_nil))) se_int) sa_nil))) ss_nil)
    (ss_one (s_ret (se_var (pv 2))))))
theorem ok_exit_at {f : Addr} {fd : FuncData} (Fn : Fun K "exit_at" "exit_at" s_exit_at f fd) (hm : mg "exit_at" = some (.ref f)) (bd : Binds K fd ["told", "t"] []) (B : Bn mg) (d_added : DefOk P w K mg base T 2 "added" 2 F_added) (d_is_finer : DefOk P w K mg base T 1 "is_finer" 2 F_is_finer) (d_partings : DefOk P w K mg base T 4 "partings" 1 F_partings) : DefOk P w K mg base T 5 "exit_at" 2 F_exit_at :=
  def_ok Fn sc_exit_at rfl hm bd (N := ["told", "t", "found", "x", "number"]) fun cdv A outer s H E R hR hr => (ss_cons (s_set sc_exit_at.nd rfl (by first | exact .inl rfl | exact .inr rfl) (se_tup (sa_cons se_int (sa_cons se_int sa_nil)) (ar_cons (ar_cons ar_nil)) (by decide)))
    (ss_cons (s_for (passes_of rfl) rfl (si_zip hR.symm (by rfl) B.z_zip (sa_cons (se_call d_partings hR.symm (hr.mono (by decide)) (fun σ => passAt (takes_of rfl rfl rfl rfl) σ) (by rfl) (sa_cons (se_b (pe_callB (cr_len_ok hR.symm) (by rfl) B.z_len (by rfl) (sa_cons (se_var (pv 1)) sa_nil))) sa_nil) (ar_cons ar_nil)) (sa_cons (se_var (pv 0)) sa_nil))) (sg_tpl rfl (sgs_cons (sg_name sc_exit_at.nd rfl (by first | exact .inl rfl | exact .inr rfl)) (sgs_cons (sg_name sc_exit_at.nd rfl (by first | exact .inl rfl | exact .inr rfl)) sgs_nil)) (glen_cons (glen_cons glen_nil)) hR.symm) (ss_one (s_if (PW.pt (sw_and (st_cmp (op_ne_ok hR.symm hr.units) (se_ix (op_ix_ok hR.symm) (se_var (pv 4)) se_int (fun _ _ => rfl)) se_int (nomark _)) (sw_and1 (st_not (st_val (se_call d_is_finer hR.symm (hr.mono (by decide)) (fun σ => passAt (takes_of rfl rfl rfl rfl) σ) (by rfl) (sa_cons (se_var (pv 3)) (sa_cons (se_var (pv 1)) sa_nil)) (ar_cons (ar_cons ar_nil)))))))) (ss_one (s_set sc_exit_at.nd rfl (by first | exact .inl rfl | exact .inr rfl) (se_call d_added hR.symm (hr.mono (by decide)) (fun σ => passAt (takes_of rfl rfl rfl rfl) σ) (by rfl) (sa_cons (se_var (pv 2)) (sa_cons (se_var (pv 4)) sa_nil)) (ar_cons (ar_cons ar_nil))))) ss_nil)))
    (ss_one (s_ret (se_var (pv 2))))))
theorem ok_triangle {f : Addr} {fd : FuncData} (Fn : Fun K "triangle" "triangle" s_triangle f fd) (hm : mg "triangle" = some (.ref f)) (bd : Binds K fd ["first", "second", "third"] []) (B : Bn mg) (d_checked_amount : DefOk P w K mg base T 3 "checked_amount" 2 F_checked_amount) (d_taken : DefOk P w K mg base T 2 "taken" 2 F_taken) (d_product_of : DefOk P w K mg base T 2 "product_of" 2 F_product_of) (d_total : DefOk P w K mg base T 3 "total" 1 F_total) : DefOk P w K mg base T 4 "triangle" 3 F_triangle :=
  def_ok Fn sc_triangle rfl hm bd (N := ["first", "second", "third", "words", "rates", "half_sum", "rate", "word"]) fun cdv A outer s H E R hR hr => (ss_cons (s_set sc_triangle.nd rfl (by first | exact .inl rfl | exact .inr rfl) (se_tup (sa_cons se_str (sa_cons se_str (sa_cons se_str sa_nil))) (ar_cons (ar_cons (ar_cons ar_nil))) (by decide)))
    (ss_cons (s_setLc (own := [("rate", 6), ("word", 7)]) (wr := ([6] ++ ([7] ++ []))) (takes_of rfl rfl rfl rfl) rfl rfl rfl sc_triangle.nd rfl rfl rfl (si_zip hR.symm (by rfl) B.z_zip (sa_cons (se_tup (sa_cons (se_var (pv 0)) (sa_cons (se_var (pv 1)) (sa_cons (se_var (pv 2)) sa_nil))) (ar_cons (ar_cons (ar_cons ar_nil))) (by decide)) (sa_cons (se_var (pv 3)) sa_nil))) (show BlkOk ["first", "second", "third", "words", "rates", "half_sum", "rate", "word"] (defScope s_triangle) _ _ from ⟨rfl, by decide +kernel, by decide +kernel, by decide +kernel, by decide +kernel⟩) ⟨fun s H C cl fp xe W R1 hK1 air1 => ⟨(sg_tpl rfl (sgs_cons (sg_name sc_triangle.nd rfl (by first | exact .inl rfl | exact .inr rfl)) (sgs_cons (sg_name sc_triangle.nd rfl (by first | exact .inl rfl | exact .inr rfl)) sgs_nil)) (glen_cons (glen_cons glen_nil)) (hR.symm.trans hK1.symm)), sts_nil, (se_call d_checked_amount (hR.symm.trans hK1.symm) (hr.mono (by decide)) air1 (by rfl) (sa_cons (se_var (pv 6)) (sa_cons (se_var (pv 7)) sa_nil)) (ar_cons (ar_cons ar_nil)))⟩⟩ (by decide))
    (ss_cons (s_set sc_triangle.nd rfl (by first | exact .inl rfl | exact .inr rfl) (se_call d_product_of hR.symm (hr.mono (by decide)) (fun σ => passAt (takes_of rfl rfl rfl rfl) σ) (by rfl) (sa_cons (se_call d_total hR.symm (hr.mono (by decide)) (fun σ => passAt (takes_of rfl rfl rfl rfl) σ) (by rfl) (sa_cons (se_var (pv 4)) sa_nil) (ar_cons ar_nil)) (sa_cons (se_tup (sa_cons se_int (sa_cons se_int sa_nil)) (ar_cons (ar_cons ar_nil)) (by decide)) sa_nil)) (ar_cons (ar_cons ar_nil))))
    (ss_one (s_ret (se_b (pe_callTy (cr_tup_ok hR.symm) (by rfl) B.z_tuple (by rfl) (sa_cons (se_lc (own := [("rate", 6)]) (wr := [6]) (takes_of rfl rfl rfl rfl) rfl rfl rfl sc_triangle.nd (si_seq hR.symm (se_var (pv 4))) (show BlkOk ["first", "second", "third", "words", "rates", "half_sum", "rate", "word"] (defScope s_triangle) _ _ from ⟨rfl, by decide +kernel, by decide +kernel, by decide +kernel, by decide +kernel⟩) ⟨fun s H C cl fp xe W R1 hK1 air1 => ⟨(sg_name sc_triangle.nd rfl (by first | exact .inl rfl | exact .inr rfl)), sts_nil, (se_call d_taken (hR.symm.trans hK1.symm) (hr.mono (by decide)) air1 (by rfl) (sa_cons (se_var (pv 5)) (sa_cons (se_var (pv 6)) sa_nil)) (ar_cons (ar_cons ar_nil)))⟩⟩ (by decide)) sa_nil))))))))
theorem ok_from_triangle {f : Addr} {fd : FuncData} (Fn : Fun K "from_triangle" "from_triangle" s_from_triangle f fd) (hm : mg "from_triangle" = some (.ref f)) (bd : Binds K fd ["first", "second", "third"] []) (B : Bn mg) (d_triangle : DefOk P w K mg base T 4 "triangle" 3 F_triangle) : DefOk P w K mg base T 5 "from_triangle" 3 F_from_triangle :=
  def_ok Fn sc_from_triangle rfl hm bd (N := ["first", "second", "third", "weight"]) fun cdv A outer s H E R hR hr => (ss_one (s_ret (se_b (pe_callB (cr_all_ok rfl) (by rfl) B.z_all (by rfl) (sa_cons (se_lc (own := [("weight", 3)]) (wr := [3]) (takes_of rfl rfl rfl rfl) rfl rfl rfl sc_from_triangle.nd (si_seq hR.symm (se_call d_triangle hR.symm (hr.mono (by decide)) (fun σ => passAt (takes_of rfl rfl rfl rfl) σ) (by rfl) (sa_cons (se_var (pv 0)) (sa_cons (se_var (pv 1)) (sa_cons (se_var (pv 2)) sa_nil))) (ar_cons (ar_cons (ar_cons ar_nil))))) (show BlkOk ["first", "second", "third", "weight"] (defScope s_from_triangle) _ _ from ⟨rfl, by decide +kernel, by decide +kernel, by decide +kernel, by decide +kernel⟩) ⟨fun s H C cl fp xe W R1 hK1 air1 => ⟨(sg_name sc_from_triangle.nd rfl (by first | exact .inl rfl | exact .inr rfl)), sts_nil, (se_cmp op_ge_ok (se_ix (op_ix_ok (hR.symm.trans hK1.symm)) (se_var (pv 3)) se_int (fun _ _ => rfl)) se_int (nomark _))⟩⟩ (by decide)) sa_nil)))))
theorem ok_cuts {f : Addr} {fd : FuncData} (Fn : Fun K "cuts" "cuts" s_cuts f fd) (hm : mg "cuts" = some (.ref f)) (bd : Binds K fd ["n"] []) (B : Bn mg) (d_checked_number : DefOk P w K mg base T 3 "checked_number" 4 F_checked_number) (d_partings : DefOk P w K mg base T 4 "partings" 1 F_partings) : DefOk P w K mg base T 5 "cuts" 1 F_cuts :=
  def_ok Fn sc_cuts rfl hm bd (N := ["n", "t"]) fun cdv A outer s H E R hR hr => (ss_cons (s_expr (se_call d_checked_number hR.symm (hr.mono (by decide)) (fun σ => passAt (takes_of rfl rfl rfl rfl) σ) (by rfl) (sa_cons (se_var (pv 0)) (sa_cons se_int (sa_cons se_int (sa_cons se_str sa_nil)))) (ar_cons (ar_cons (ar_cons (ar_cons ar_nil))))))
    (ss_one (s_ret (se_lc (own := [("t", 1)]) (wr := [1]) (takes_of rfl rfl rfl rfl) rfl rfl rfl sc_cuts.nd (si_seq hR.symm (se_call d_partings hR.symm (hr.mono (by decide)) (fun σ => passAt (takes_of rfl rfl rfl rfl) σ) (by rfl) (sa_cons (se_var (pv 0)) sa_nil) (ar_cons ar_nil))) (show BlkOk ["n", "t"] (defScope s_cuts) _ _ from ⟨rfl, by decide +kernel, by decide +kernel, by decide +kernel, by decide +kernel⟩) ⟨fun s H C cl fp xe W R1 hK1 air1 => ⟨(sg_name sc_cuts.nd rfl (by first | exact .inl rfl | exact .inr rfl)), (sts_one (st_cmp (op_eq_ok (hR.symm.trans hK1.symm) hr.units) (se_b (pe_callB (cr_max_ok (hR.symm.trans hK1.symm) rfl) (by rfl) B.z_max (by rfl) (sa_cons (se_var (pv 1)) sa_nil))) se_int (nomark _))), (se_var (pv 1))⟩⟩ (by decide)))))
theorem ok_cut_rates {f : Addr} {fd : FuncData} (Fn : Fun K "cut_rates" "cut_rates" s_cut_rates f fd) (hm : mg "cut_rates" = some (.ref f)) (bd : Binds K fd ["n", "row"] []) (B : Bn mg) (d_colour_row : DefOk P w K mg base T 6 "colour_row" 2 F_colour_row) (d_exit_at : DefOk P w K mg base T 5 "exit_at" 2 F_exit_at) (d_cuts : DefOk P w K mg base T 5 "cuts" 1 F_cuts) : DefOk P w K mg base T 7 "cut_rates" 2 F_cut_rates :=
  def_ok Fn sc_cut_rates rfl hm bd (N := ["n", "row", "rows", "told", "cut"]) fun cdv A outer s H E R hR hr => (ss_cons (s_set sc_cut_rates.nd rfl (by first | exact .inl rfl | exact .inr rfl) (se_call d_cuts hR.symm (hr.mono (by decide)) (fun σ => passAt (takes_of rfl rfl rfl rfl) σ) (by rfl) (sa_cons (se_var (pv 0)) sa_nil) (ar_cons ar_nil)))
    (ss_cons (s_set sc_cut_rates.nd rfl (by first | exact .inl rfl | exact .inr rfl) (se_call d_colour_row hR.symm (hr.mono (by decide)) (fun σ => passAt (takes_of rfl rfl rfl rfl) σ) (by rfl) (sa_cons (se_var (pv 0)) (sa_cons (se_var (pv 1)) sa_nil)) (ar_cons (ar_cons ar_nil))))
    (ss_one (s_ret (se_b (pe_callTy (cr_tup_ok hR.symm) (by rfl) B.z_tuple (by rfl) (sa_cons (se_lc (own := [("cut", 4)]) (wr := [4]) (takes_of rfl rfl rfl rfl) rfl rfl rfl sc_cut_rates.nd (si_seq hR.symm (se_var (pv 2))) (show BlkOk ["n", "row", "rows", "told", "cut"] (defScope s_cut_rates) _ _ from ⟨rfl, by decide +kernel, by decide +kernel, by decide +kernel, by decide +kernel⟩) ⟨fun s H C cl fp xe W R1 hK1 air1 => ⟨(sg_name sc_cut_rates.nd rfl (by first | exact .inl rfl | exact .inr rfl)), sts_nil, (se_call d_exit_at (hR.symm.trans hK1.symm) (hr.mono (by decide)) air1 (by rfl) (sa_cons (se_var (pv 3)) (sa_cons (se_var (pv 4)) sa_nil)) (ar_cons (ar_cons ar_nil)))⟩⟩ (by decide)) sa_nil)))))))
theorem ok__law_draws {f : Addr} {fd : FuncData} (Fn : Fun K "_law_draws" "_law_draws" s__law_draws f fd) (hm : mg "_law_draws" = some (.ref f)) (bd : Binds K fd ["_law_script"] []) (B : Bn mg)  : DefOk P w K mg base T 1 "_law_draws" 1 F__law_draws :=
  def_ok Fn sc__law_draws rfl hm bd (N := ["_law_script", "_law_out", "_law_at", "_law_cell", "_law_size", "_law_turn", "_law_one", "_law_two"]) fun cdv A outer s H E R hR hr => (ss_cons (s_set sc__law_draws.nd rfl (by first | exact .inl rfl | exact .inr rfl) (se_lst sa_nil ar_nil (by decide)))
    (ss_cons (s_for (passes_of rfl) rfl (si_range1 (by rfl) B.z_range (sa_cons (se_b (pe_callB (cr_min_ok hR.symm rfl) (by rfl) B.z_min (by rfl) (sa_cons (se_b (pe_callB (cr_len_ok hR.symm) (by rfl) B.z_len (by rfl) (sa_cons (se_var (pv 0)) sa_nil))) (sa_cons se_int sa_nil)))) sa_nil)) (sg_name sc__law_draws.nd rfl (by first | exact .inl rfl | exact .inr rfl)) (ss_cons (s_set sc__law_draws.nd rfl (by first | exact .inl rfl | exact .inr rfl) (se_b (pe_callTy cr_int_ok (by rfl) B.z_int (by rfl) (sa_cons (se_ix (op_ix_ok hR.symm) (se_var (pv 0)) (se_var (pv 2)) (fun _ _ => rfl)) sa_nil))))
    (ss_cons (s_set sc__law_draws.nd rfl (by first | exact .inl rfl | exact .inr rfl) (se_b (pe_callB cr_abs_ok (by rfl) B.z_abs (by rfl) (sa_cons (se_var (pv 3)) sa_nil))))
    (ss_one (s_if (st_cmp op_ge_ok (se_var (pv 4)) (se_op op_pow_ok se_int se_int) (nomark _)) (ss_cons (s_for (passes_of rfl) rfl (si_range1 (by rfl) B.z_range (sa_cons se_int sa_nil)) (sg_name sc__law_draws.nd rfl (by first | exact .inl rfl | exact .inr rfl)) (ss_one (s_if (st_cmp op_gt_ok (se_var (pv 4)) se_int (nomark _)) (ss_cons (s_app (pv 1) (se_op op_mod_ok (se_b (pe_callTy cr_int_ok (by rfl) B.z_int (by rfl) (sa_cons (se_var (pv 4)) sa_nil))) se_int))
    (ss_one (s_set sc__law_draws.nd rfl (by first | exact .inl rfl | exact .inr rfl) (se_op op_div_ok (se_var (pv 4)) se_int)))) ss_nil)))
    (ss_one (s_if (st_cmp op_lt_ok (se_var (pv 3)) se_int (nomark _)) (ss_one (s_app (pv 1) se_int)) ss_nil))) (ss_cons (s_if (st_cmp op_lt_ok (se_var (pv 3)) se_int (nomark _)) (ss_one (s_set sc__law_draws.nd rfl (by first | exact .inl rfl | exact .inr rfl) (se_op (op_add_ok hR.symm) (se_var (pv 4)) se_int))) ss_nil)
    (ss_cons (s_set sc__law_draws.nd rfl (by first | exact .inl rfl | exact .inr rfl) (se_op op_mod_ok (se_b (pe_callTy cr_int_ok (by rfl) B.z_int (by rfl) (sa_cons (se_op (op_add_ok hR.symm) (se_op (op_add_ok hR.symm) (se_op op_mul_ok (se_var (pv 4)) se_int) (se_op op_mul_ok (se_var (pv 2)) se_int)) se_int) sa_nil))) se_int))
    (ss_cons (s_set sc__law_draws.nd rfl (by first | exact .inl rfl | exact .inr rfl) (se_op op_mod_ok (se_b (pe_callTy cr_int_ok (by rfl) B.z_int (by rfl) (sa_cons (se_op (op_add_ok hR.symm) (se_op (op_add_ok hR.symm) (se_op op_mul_ok (se_var (pv 6)) se_int) (se_op op_mul_ok (se_var (pv 2)) se_int)) se_int) sa_nil))) se_int))
    (ss_cons (s_app (pv 1) (se_op op_mod_ok (se_b (pe_callTy cr_int_ok (by rfl) B.z_int (by rfl) (sa_cons (se_op op_div_ok (se_var (pv 6)) se_int) sa_nil))) se_int))
    (ss_one (s_app (pv 1) (se_op op_mod_ok (se_b (pe_callTy cr_int_ok (by rfl) B.z_int (by rfl) (sa_cons (se_op op_div_ok (se_var (pv 7)) se_int) sa_nil))) se_int))))))))))))
    (ss_one (s_ret (se_var (pv 1))))))
theorem ok__law_pick {f : Addr} {fd : FuncData} (Fn : Fun K "_law_pick" "_law_pick" s__law_pick f fd) (hm : mg "_law_pick" = some (.ref f)) (bd : Binds K fd ["_law_draws_here", "_law_at", "_law_many_here"] []) (B : Bn mg)  : DefOk P w K mg base T 1 "_law_pick" 3 F__law_pick :=
  def_ok Fn sc__law_pick rfl hm bd (N := ["_law_draws_here", "_law_at", "_law_many_here"]) fun cdv A outer s H E R hR hr => (ss_cons (s_if (st_cmp op_lt_ok (se_var (pv 1)) (se_b (pe_callB (cr_len_ok hR.symm) (by rfl) B.z_len (by rfl) (sa_cons (se_var (pv 0)) sa_nil))) (nomark _)) (ss_one (s_ret (se_op op_mod_ok (se_b (pe_callTy cr_int_ok (by rfl) B.z_int (by rfl) (sa_cons (se_ix (op_ix_ok hR.symm) (se_var (pv 0)) (se_var (pv 1)) (fun _ _ => rfl)) sa_nil))) (se_var (pv 2))))) ss_nil)
    (ss_one (s_ret se_int)))
theorem ok__law_all {f : Addr} {fd : FuncData} (Fn : Fun K "_law_all" "_law_all" s__law_all f fd) (hm : mg "_law_all" = some (.ref f)) (bd : Binds K fd ["_law_size"] []) (B : Bn mg)  : DefOk P w K mg base T 1 "_law_all" 1 F__law_all :=
  def_ok Fn sc__law_all rfl hm bd (N := ["_law_size", "_law_rows", "_law_k", "_law_longer", "_law_row", "_law_high", "_law_mark"]) fun cdv A outer s H E R hR hr => (ss_cons (s_set sc__law_all.nd rfl (by first | exact .inl rfl | exact .inr rfl) (se_lst (sa_cons (se_lst sa_nil ar_nil (by decide)) sa_nil) (ar_cons ar_nil) (by decide)))
    (ss_cons (s_for (passes_of rfl) rfl (si_range1 (by rfl) B.z_range (sa_cons (se_var (pv 0)) sa_nil)) (sg_name sc__law_all.nd rfl (by first | exact .inl rfl | exact .inr rfl)) (ss_cons (s_set sc__law_all.nd rfl (by first | exact .inl rfl | exact .inr rfl) (se_lst sa_nil ar_nil (by decide)))
    (ss_cons (s_for (passes_of rfl) rfl (si_seq hR.symm (se_var (pv 1))) (sg_name sc__law_all.nd rfl (by first | exact .inl rfl | exact .inr rfl)) (ss_cons (s_set sc__law_all.nd rfl (by first | exact .inl rfl | exact .inr rfl) se_int)
    (ss_cons (s_if (st_cmp op_gt_ok (se_b (pe_callB (cr_len_ok hR.symm) (by rfl) B.z_len (by rfl) (sa_cons (se_var (pv 4)) sa_nil))) se_int (nomark _)) (ss_one (s_set sc__law_all.nd rfl (by first | exact .inl rfl | exact .inr rfl) (se_op (op_add_ok hR.symm) (se_b (pe_callB (cr_max_ok hR.symm rfl) (by rfl) B.z_max (by rfl) (sa_cons (se_var (pv 4)) sa_nil))) se_int))) ss_nil)
    (ss_one (s_for (passes_of rfl) rfl (si_range1 (by rfl) B.z_range (sa_cons (se_op (op_add_ok hR.symm) (se_var (pv 5)) se_int) sa_nil)) (sg_name sc__law_all.nd rfl (by first | exact .inl rfl | exact .inr rfl)) (ss_one (s_app (pv 3) (se_op (op_add_ok hR.symm) (se_var (pv 4)) (se_lst (sa_cons (se_var (pv 6)) sa_nil) (ar_cons ar_nil) (by decide))))))))))
    (ss_one (s_set sc__law_all.nd rfl (by first | exact .inl rfl | exact .inr rfl) (se_b (pe_callTy (cr_lst_ok hR.symm) (by rfl) B.z_list (by rfl) (sa_cons (se_var (pv 3)) sa_nil))))))))
    (ss_one (s_ret (se_lc (own := [("_law_row", 4)]) (wr := [4]) (takes_of rfl rfl rfl rfl) rfl rfl rfl sc__law_all.nd (si_seq hR.symm (se_var (pv 1))) (show BlkOk ["_law_size", "_law_rows", "_law_k", "_law_longer", "_law_row", "_law_high", "_law_mark"] (defScope s__law_all) _ _ from ⟨rfl, by decide +kernel, by decide +kernel, by decide +kernel, by decide +kernel⟩) ⟨fun s H C cl fp xe W R1 hK1 air1 => ⟨(sg_name sc__law_all.nd rfl (by first | exact .inl rfl | exact .inr rfl)), sts_nil, (se_b (pe_callTy (cr_tup_ok (hR.symm.trans hK1.symm)) (by rfl) B.z_tuple (by rfl) (sa_cons (se_var (pv 4)) sa_nil)))⟩⟩ (by decide))))))
theorem ok__law_many {f : Addr} {fd : FuncData} (Fn : Fun K "_law_many" "_law_many" s__law_many f fd) (hm : mg "_law_many" = some (.ref f)) (bd : Binds K fd ["_law_p"] []) (B : Bn mg)  : DefOk P w K mg base T 1 "_law_many" 1 F__law_many :=
  def_ok Fn sc__law_many rfl hm bd (N := ["_law_p"]) fun cdv A outer s H E R hR hr => (ss_one (s_ret (se_op (op_add_ok hR.symm) (se_b (pe_callB (cr_max_ok hR.symm rfl) (by rfl) B.z_max (by rfl) (sa_cons (se_var (pv 0)) sa_nil))) se_int)))
theorem ok__law_finer {f : Addr} {fd : FuncData} (Fn : Fun K "_law_finer" "_law_finer" s__law_finer f fd) (hm : mg "_law_finer" = some (.ref f)) (bd : Binds K fd ["_law_p", "_law_r"] []) (B : Bn mg)  : DefOk P w K mg base T 1 "_law_finer" 2 F__law_finer :=
  def_ok Fn sc__law_finer rfl hm bd (N := ["_law_p", "_law_r", "_law_i", "_law_k"]) fun cdv A outer s H E R hR hr => (ss_cons (s_for (passes_of rfl) rfl (si_range1 (by rfl) B.z_range (sa_cons (se_b (pe_callB (cr_len_ok hR.symm) (by rfl) B.z_len (by rfl) (sa_cons (se_var (pv 0)) sa_nil))) sa_nil)) (sg_name sc__law_finer.nd rfl (by first | exact .inl rfl | exact .inr rfl)) (ss_one (s_for (passes_of rfl) rfl (si_range1 (by rfl) B.z_range (sa_cons (se_var (pv 2)) sa_nil)) (sg_name sc__law_finer.nd rfl (by first | exact .inl rfl | exact .inr rfl)) (ss_one (s_if (PW.pt (sw_and (st_cmp (op_eq_ok hR.symm hr.units) (se_ix (op_ix_ok hR.symm) (se_var (pv 0)) (se_var (pv 2)) (fun _ _ => rfl)) (se_ix (op_ix_ok hR.symm) (se_var (pv 0)) (se_var (pv 3)) (fun _ _ => rfl)) (nomark _)) (sw_and1 (st_cmp (op_ne_ok hR.symm hr.units) (se_ix (op_ix_ok hR.symm) (se_var (pv 1)) (se_var (pv 2)) (fun _ _ => rfl)) (se_ix (op_ix_ok hR.symm) (se_var (pv 1)) (se_var (pv 3)) (fun _ _ => rfl)) (nomark _))))) (ss_one (s_ret se_bl)) ss_nil)))))
    (ss_one (s_ret se_bl)))
theorem ok__law_gcd {f : Addr} {fd : FuncData} (Fn : Fun K "_law_gcd" "_law_gcd" s__law_gcd f fd) (hm : mg "_law_gcd" = some (.ref f)) (bd : Binds K fd ["_law_one", "_law_two"] []) (B : Bn mg)  : DefOk P w K mg base T 1 "_law_gcd" 2 F__law_gcd :=
  def_ok Fn sc__law_gcd rfl hm bd (N := ["_law_one", "_law_two", "_law_high", "_law_low", "_law_turn", "_law_rest"]) fun cdv A outer s H E R hR hr => (ss_cons (s_set sc__law_gcd.nd rfl (by first | exact .inl rfl | exact .inr rfl) (se_b (pe_callB cr_abs_ok (by rfl) B.z_abs (by rfl) (sa_cons (se_var (pv 0)) sa_nil))))
    (ss_cons (s_set sc__law_gcd.nd rfl (by first | exact .inl rfl | exact .inr rfl) (se_b (pe_callB cr_abs_ok (by rfl) B.z_abs (by rfl) (sa_cons (se_var (pv 1)) sa_nil))))
    (ss_cons (s_for (passes_of rfl) rfl (si_range1 (by rfl) B.z_range (sa_cons (se_op (op_add_ok hR.symm) (se_op op_mul_ok se_int (se_b (pe_callB (cr_max_ok hR.symm rfl) (by rfl) B.z_max (by rfl) (sa_cons (se_bits (se_var (pv 2))) (sa_cons (se_bits (se_var (pv 3))) sa_nil))))) se_int) sa_nil)) (sg_name sc__law_gcd.nd rfl (by first | exact .inl rfl | exact .inr rfl)) (ss_cons (s_if (st_cmp (op_eq_ok hR.symm hr.units) (se_var (pv 3)) se_int (nomark _)) (ss_one (s_break)) ss_nil)
    (ss_cons (s_set sc__law_gcd.nd rfl (by first | exact .inl rfl | exact .inr rfl) (se_op op_mod_ok (se_b (pe_callTy cr_int_ok (by rfl) B.z_int (by rfl) (sa_cons (se_var (pv 2)) sa_nil))) (se_var (pv 3))))
    (ss_cons (s_set sc__law_gcd.nd rfl (by first | exact .inl rfl | exact .inr rfl) (se_var (pv 3)))
    (ss_one (s_set sc__law_gcd.nd rfl (by first | exact .inl rfl | exact .inr rfl) (se_var (pv 5))))))))
    (ss_one (s_ret (se_var (pv 2)))))))
theorem ok__law_frac {f : Addr} {fd : FuncData} (Fn : Fun K "_law_frac" "_law_frac" s__law_frac f fd) (hm : mg "_law_frac" = some (.ref f)) (bd : Binds K fd ["_law_top", "_law_bottom"] []) (B : Bn mg) (d__law_gcd : DefOk P w K mg base T 1 "_law_gcd" 2 F__law_gcd) : DefOk P w K mg base T 2 "_law_frac" 2 F__law_frac :=
  def_ok Fn sc__law_frac rfl hm bd (N := ["_law_top", "_law_bottom", "_law_common"]) fun cdv A outer s H E R hR hr => (ss_cons (s_set sc__law_frac.nd rfl (by first | exact .inl rfl | exact .inr rfl) (se_call d__law_gcd hR.symm (hr.mono (by decide)) (fun σ => passAt (takes_of rfl rfl rfl rfl) σ) (by rfl) (sa_cons (se_var (pv 0)) (sa_cons (se_var (pv 1)) sa_nil)) (ar_cons (ar_cons ar_nil))))
    (ss_cons (s_if (st_cmp op_lt_ok (se_var (pv 1)) se_int (nomark _)) (ss_one (s_set sc__law_frac.nd rfl (by first | exact .inl rfl | exact .inr rfl) (se_u un_neg_ok (se_var (pv 2))))) ss_nil)
    (ss_one (s_ret (se_tup (sa_cons (se_op op_div_ok (se_var (pv 0)) (se_var (pv 2))) (sa_cons (se_op op_div_ok (se_var (pv 1)) (se_var (pv 2))) sa_nil)) (ar_cons (ar_cons ar_nil)) (by decide))))))
theorem ok__law_plus {f : Addr} {fd : FuncData} (Fn : Fun K "_law_plus" "_law_plus" s__law_plus f fd) (hm : mg "_law_plus" = some (.ref f)) (bd : Binds K fd ["_law_f", "_law_g"] []) (B : Bn mg) (d__law_frac : DefOk P w K mg base T 2 "_law_frac" 2 F__law_frac) : DefOk P w K mg base T 3 "_law_plus" 2 F__law_plus :=
  def_ok Fn sc__law_plus rfl hm bd (N := ["_law_f", "_law_g"]) fun cdv A outer s H E R hR hr => (ss_one (s_ret (se_call d__law_frac hR.symm (hr.mono (by decide)) (fun σ => passAt (takes_of rfl rfl rfl rfl) σ) (by rfl) (sa_cons (se_op (op_add_ok hR.symm) (se_op op_mul_ok (se_ix (op_ix_ok hR.symm) (se_var (pv 0)) se_int (fun _ _ => rfl)) (se_ix (op_ix_ok hR.symm) (se_var (pv 1)) se_int (fun _ _ => rfl))) (se_op op_mul_ok (se_ix (op_ix_ok hR.symm) (se_var (pv 1)) se_int (fun _ _ => rfl)) (se_ix (op_ix_ok hR.symm) (se_var (pv 0)) se_int (fun _ _ => rfl)))) (sa_cons (se_op op_mul_ok (se_ix (op_ix_ok hR.symm) (se_var (pv 0)) se_int (fun _ _ => rfl)) (se_ix (op_ix_ok hR.symm) (se_var (pv 1)) se_int (fun _ _ => rfl))) sa_nil)) (ar_cons (ar_cons ar_nil)))))
theorem ok__law_minus {f : Addr} {fd : FuncData} (Fn : Fun K "_law_minus" "_law_minus" s__law_minus f fd) (hm : mg "_law_minus" = some (.ref f)) (bd : Binds K fd ["_law_f", "_law_g"] []) (B : Bn mg) (d__law_frac : DefOk P w K mg base T 2 "_law_frac" 2 F__law_frac) : DefOk P w K mg base T 3 "_law_minus" 2 F__law_minus :=
  def_ok Fn sc__law_minus rfl hm bd (N := ["_law_f", "_law_g"]) fun cdv A outer s H E R hR hr => (ss_one (s_ret (se_call d__law_frac hR.symm (hr.mono (by decide)) (fun σ => passAt (takes_of rfl rfl rfl rfl) σ) (by rfl) (sa_cons (se_op op_sub_ok (se_op op_mul_ok (se_ix (op_ix_ok hR.symm) (se_var (pv 0)) se_int (fun _ _ => rfl)) (se_ix (op_ix_ok hR.symm) (se_var (pv 1)) se_int (fun _ _ => rfl))) (se_op op_mul_ok (se_ix (op_ix_ok hR.symm) (se_var (pv 1)) se_int (fun _ _ => rfl)) (se_ix (op_ix_ok hR.symm) (se_var (pv 0)) se_int (fun _ _ => rfl)))) (sa_cons (se_op op_mul_ok (se_ix (op_ix_ok hR.symm) (se_var (pv 0)) se_int (fun _ _ => rfl)) (se_ix (op_ix_ok hR.symm) (se_var (pv 1)) se_int (fun _ _ => rfl))) sa_nil)) (ar_cons (ar_cons ar_nil)))))
theorem ok__law_times {f : Addr} {fd : FuncData} (Fn : Fun K "_law_times" "_law_times" s__law_times f fd) (hm : mg "_law_times" = some (.ref f)) (bd : Binds K fd ["_law_f", "_law_g"] []) (B : Bn mg) (d__law_frac : DefOk P w K mg base T 2 "_law_frac" 2 F__law_frac) : DefOk P w K mg base T 3 "_law_times" 2 F__law_times :=
  def_ok Fn sc__law_times rfl hm bd (N := ["_law_f", "_law_g"]) fun cdv A outer s H E R hR hr => (ss_one (s_ret (se_call d__law_frac hR.symm (hr.mono (by decide)) (fun σ => passAt (takes_of rfl rfl rfl rfl) σ) (by rfl) (sa_cons (se_op op_mul_ok (se_ix (op_ix_ok hR.symm) (se_var (pv 0)) se_int (fun _ _ => rfl)) (se_ix (op_ix_ok hR.symm) (se_var (pv 1)) se_int (fun _ _ => rfl))) (sa_cons (se_op op_mul_ok (se_ix (op_ix_ok hR.symm) (se_var (pv 0)) se_int (fun _ _ => rfl)) (se_ix (op_ix_ok hR.symm) (se_var (pv 1)) se_int (fun _ _ => rfl))) sa_nil)) (ar_cons (ar_cons ar_nil)))))
theorem ok__law_less {f : Addr} {fd : FuncData} (Fn : Fun K "_law_less" "_law_less" s__law_less f fd) (hm : mg "_law_less" = some (.ref f)) (bd : Binds K fd ["_law_f", "_law_g"] []) (B : Bn mg)  : DefOk P w K mg base T 1 "_law_less" 2 F__law_less :=
  def_ok Fn sc__law_less rfl hm bd (N := ["_law_f", "_law_g"]) fun cdv A outer s H E R hR hr => (ss_one (s_ret (se_cmp op_lt_ok (se_op op_mul_ok (se_ix (op_ix_ok hR.symm) (se_var (pv 0)) se_int (fun _ _ => rfl)) (se_ix (op_ix_ok hR.symm) (se_var (pv 1)) se_int (fun _ _ => rfl))) (se_op op_mul_ok (se_ix (op_ix_ok hR.symm) (se_var (pv 1)) se_int (fun _ _ => rfl)) (se_ix (op_ix_ok hR.symm) (se_var (pv 0)) se_int (fun _ _ => rfl))) (nomark _))))
theorem ok__law_handed {f : Addr} {fd : FuncData} (Fn : Fun K "_law_handed" "_law_handed" s__law_handed f fd) (hm : mg "_law_handed" = some (.ref f)) (bd : Binds K fd ["_law_numbers"] []) (B : Bn mg)  : DefOk P w K mg base T 1 "_law_handed" 1 F__law_handed :=
  def_ok Fn sc__law_handed rfl hm bd (N := ["_law_numbers", "_law_f"]) fun cdv A outer s H E R hR hr => (ss_one (s_ret (se_lc (own := [("_law_f", 1)]) (wr := [1]) (takes_of rfl rfl rfl rfl) rfl rfl rfl sc__law_handed.nd (si_seq hR.symm (se_var (pv 0))) (show BlkOk ["_law_numbers", "_law_f"] (defScope s__law_handed) _ _ from ⟨rfl, by decide +kernel, by decide +kernel, by decide +kernel, by decide +kernel⟩) ⟨fun s H C cl fp xe W R1 hK1 air1 => ⟨(sg_name sc__law_handed.nd rfl (by first | exact .inl rfl | exact .inr rfl)), sts_nil, (se_if (st_cmp (op_eq_ok (hR.symm.trans hK1.symm) hr.units) (se_ix (op_ix_ok (hR.symm.trans hK1.symm)) (se_var (pv 1)) se_int (fun _ _ => rfl)) se_int (nomark _)) (se_ix (op_ix_ok (hR.symm.trans hK1.symm)) (se_var (pv 1)) se_int (fun _ _ => rfl)) (se_var (pv 1)))⟩⟩ (by decide))))
theorem ok__law_cuts {f : Addr} {fd : FuncData} (Fn : Fun K "_law_cuts" "_law_cuts" s__law_cuts f fd) (hm : mg "_law_cuts" = some (.ref f)) (bd : Binds K fd ["_law_size"] []) (B : Bn mg) (d__law_all : DefOk P w K mg base T 1 "_law_all" 1 F__law_all) (d__law_many : DefOk P w K mg base T 1 "_law_many" 1 F__law_many) : DefOk P w K mg base T 2 "_law_cuts" 1 F__law_cuts :=
  def_ok Fn sc__law_cuts rfl hm bd (N := ["_law_size", "_law_t"]) fun cdv A outer s H E R hR hr => (ss_one (s_ret (se_lc (own := [("_law_t", 1)]) (wr := [1]) (takes_of rfl rfl rfl rfl) rfl rfl rfl sc__law_cuts.nd (si_seq hR.symm (se_call d__law_all hR.symm (hr.mono (by decide)) (fun σ => passAt (takes_of rfl rfl rfl rfl) σ) (by rfl) (sa_cons (se_var (pv 0)) sa_nil) (ar_cons ar_nil))) (show BlkOk ["_law_size", "_law_t"] (defScope s__law_cuts) _ _ from ⟨rfl, by decide +kernel, by decide +kernel, by decide +kernel, by decide +kernel⟩) ⟨fun s H C cl fp xe W R1 hK1 air1 => ⟨(sg_name sc__law_cuts.nd rfl (by first | exact .inl rfl | exact .inr rfl)), (sts_one (st_cmp (op_eq_ok (hR.symm.trans hK1.symm) hr.units) (se_call d__law_many (hR.symm.trans hK1.symm) (hr.mono (by decide)) air1 (by rfl) (sa_cons (se_var (pv 1)) sa_nil) (ar_cons ar_nil)) se_int (nomark _))), (se_var (pv 1))⟩⟩ (by decide))))
theorem ok__law_leave {f : Addr} {fd : FuncData} (Fn : Fun K "_law_leave" "_law_leave" s__law_leave f fd) (hm : mg "_law_leave" = some (.ref f)) (bd : Binds K fd ["_law_size", "_law_row", "_law_t"] []) (B : Bn mg) (d__law_all : DefOk P w K mg base T 1 "_law_all" 1 F__law_all) (d__law_finer : DefOk P w K mg base T 1 "_law_finer" 2 F__law_finer) (d__law_plus : DefOk P w K mg base T 3 "_law_plus" 2 F__law_plus) : DefOk P w K mg base T 4 "_law_leave" 3 F__law_leave :=
  def_ok Fn sc__law_leave rfl hm bd (N := ["_law_size", "_law_row", "_law_t", "_law_out", "_law_every", "_law_k"]) fun cdv A outer s H E R hR hr => (ss_cons (s_set sc__law_leave.nd rfl (by first | exact .inl rfl | exact .inr rfl) (se_tup (sa_cons se_int (sa_cons se_int sa_nil)) (ar_cons (ar_cons ar_nil)) (by decide)))
    (ss_cons (s_set sc__law_leave.nd rfl (by first | exact .inl rfl | exact .inr rfl) (se_call d__law_all hR.symm (hr.mono (by decide)) (fun σ => passAt (takes_of rfl rfl rfl rfl) σ) (by rfl) (sa_cons (se_var (pv 0)) sa_nil) (ar_cons ar_nil)))
    (ss_cons (s_for (passes_of rfl) rfl (si_range1 (by rfl) B.z_range (sa_cons (se_b (pe_callB (cr_len_ok hR.symm) (by rfl) B.z_len (by rfl) (sa_cons (se_var (pv 4)) sa_nil))) sa_nil)) (sg_name sc__law_leave.nd rfl (by first | exact .inl rfl | exact .inr rfl)) (ss_one (s_if (PW.pt (sw_and (st_cmp (op_ne_ok hR.symm hr.units) (se_ix (op_ix_ok hR.symm) (se_ix (op_ix_ok hR.symm) (se_var (pv 1)) (se_var (pv 5)) (fun _ _ => rfl)) se_int (fun _ _ => rfl)) se_int (nomark _)) (sw_and1 (st_not (st_val (se_call d__law_finer hR.symm (hr.mono (by decide)) (fun σ => passAt (takes_of rfl rfl rfl rfl) σ) (by rfl) (sa_cons (se_ix (op_ix_ok hR.symm) (se_var (pv 4)) (se_var (pv 5)) (fun _ _ => rfl)) (sa_cons (se_var (pv 2)) sa_nil)) (ar_cons (ar_cons ar_nil)))))))) (ss_one (s_set sc__law_leave.nd rfl (by first | exact .inl rfl | exact .inr rfl) (se_call d__law_plus hR.symm (hr.mono (by decide)) (fun σ => passAt (takes_of rfl rfl rfl rfl) σ) (by rfl) (sa_cons (se_var (pv 3)) (sa_cons (se_ix (op_ix_ok hR.symm) (se_var (pv 1)) (se_var (pv 5)) (fun _ _ => rfl)) sa_nil)) (ar_cons (ar_cons ar_nil))))) ss_nil)))
    (ss_one (s_ret (se_var (pv 3)))))))
theorem ok__law_amounts {f : Addr} {fd : FuncData} (Fn : Fun K "_law_amounts" "_law_amounts" s__law_amounts f fd) (hm : mg "_law_amounts" = some (.ref f)) (bd : Binds K fd ["_law_draws_here"] []) (B : Bn mg) (d__law_pick : DefOk P w K mg base T 1 "_law_pick" 3 F__law_pick) (d__law_frac : DefOk P w K mg base T 2 "_law_frac" 2 F__law_frac) (d__law_plus : DefOk P w K mg base T 3 "_law_plus" 2 F__law_plus) : DefOk P w K mg base T 4 "_law_amounts" 1 F__law_amounts :=
  def_ok Fn sc__law_amounts rfl hm bd (N := ["_law_draws_here", "_law_out", "_law_k", "_law_bottom"]) fun cdv A outer s H E R hR hr => (ss_cons (s_set sc__law_amounts.nd rfl (by first | exact .inl rfl | exact .inr rfl) (se_lst sa_nil ar_nil (by decide)))
    (ss_cons (s_for (passes_of rfl) rfl (si_range1 (by rfl) B.z_range (sa_cons se_int sa_nil)) (sg_name sc__law_amounts.nd rfl (by first | exact .inl rfl | exact .inr rfl)) (ss_cons (s_set sc__law_amounts.nd rfl (by first | exact .inl rfl | exact .inr rfl) (se_op (op_add_ok hR.symm) se_int (se_call d__law_pick hR.symm (hr.mono (by decide)) (fun σ => passAt (takes_of rfl rfl rfl rfl) σ) (by rfl) (sa_cons (se_var (pv 0)) (sa_cons (se_op (op_add_ok hR.symm) se_int (se_var (pv 2))) (sa_cons se_int sa_nil))) (ar_cons (ar_cons (ar_cons ar_nil))))))
    (ss_cons (s_if (st_cmp (op_eq_ok hR.symm hr.units) (se_call d__law_pick hR.symm (hr.mono (by decide)) (fun σ => passAt (takes_of rfl rfl rfl rfl) σ) (by rfl) (sa_cons (se_var (pv 0)) (sa_cons se_int (sa_cons se_int sa_nil))) (ar_cons (ar_cons (ar_cons ar_nil)))) se_int (nomark _)) (ss_one (s_set sc__law_amounts.nd rfl (by first | exact .inl rfl | exact .inr rfl) se_int)) ss_nil)
    (ss_one (s_app (pv 1) (se_call d__law_frac hR.symm (hr.mono (by decide)) (fun σ => passAt (takes_of rfl rfl rfl rfl) σ) (by rfl) (sa_cons (se_op op_sub_ok (se_call d__law_pick hR.symm (hr.mono (by decide)) (fun σ => passAt (takes_of rfl rfl rfl rfl) σ) (by rfl) (sa_cons (se_var (pv 0)) (sa_cons (se_op (op_add_ok hR.symm) se_int (se_var (pv 2))) (sa_cons se_int sa_nil))) (ar_cons (ar_cons (ar_cons ar_nil)))) se_int) (sa_cons (se_var (pv 3)) sa_nil)) (ar_cons (ar_cons ar_nil))))))))
    (ss_cons (s_if (st_cmp (op_eq_ok hR.symm hr.units) (se_call d__law_pick hR.symm (hr.mono (by decide)) (fun σ => passAt (takes_of rfl rfl rfl rfl) σ) (by rfl) (sa_cons (se_var (pv 0)) (sa_cons se_int (sa_cons se_int sa_nil))) (ar_cons (ar_cons (ar_cons ar_nil)))) se_int (nomark _)) (ss_one (s_setIx (pv 1) se_int (se_call d__law_plus hR.symm (hr.mono (by decide)) (fun σ => passAt (takes_of rfl rfl rfl rfl) σ) (by rfl) (sa_cons (se_ix (op_ix_ok hR.symm) (se_var (pv 1)) se_int (fun _ _ => rfl)) (sa_cons (se_tup (sa_cons (se_op op_pow_ok se_int se_int) (sa_cons se_int sa_nil)) (ar_cons (ar_cons ar_nil)) (by decide)) sa_nil)) (ar_cons (ar_cons ar_nil))))) ss_nil)
    (ss_one (s_ret (se_var (pv 1)))))))
theorem ok__law_weighed {f : Addr} {fd : FuncData} (Fn : Fun K "_law_weighed" "_law_weighed" s__law_weighed f fd) (hm : mg "_law_weighed" = some (.ref f)) (bd : Binds K fd ["_law_a", "_law_b", "_law_c"] []) (B : Bn mg) (d__law_plus : DefOk P w K mg base T 3 "_law_plus" 2 F__law_plus) (d__law_minus : DefOk P w K mg base T 3 "_law_minus" 2 F__law_minus) (d__law_times : DefOk P w K mg base T 3 "_law_times" 2 F__law_times) : DefOk P w K mg base T 4 "_law_weighed" 3 F__law_weighed :=
  def_ok Fn sc__law_weighed rfl hm bd (N := ["_law_a", "_law_b", "_law_c", "_law_out", "_law_three"]) fun cdv A outer s H E R hR hr => (ss_cons (s_set sc__law_weighed.nd rfl (by first | exact .inl rfl | exact .inr rfl) (se_lst sa_nil ar_nil (by decide)))
    (ss_cons (s_for (passes_of rfl) rfl (si_seq hR.symm (se_lst (sa_cons (se_tup (sa_cons (se_var (pv 1)) (sa_cons (se_var (pv 2)) (sa_cons (se_var (pv 0)) sa_nil))) (ar_cons (ar_cons (ar_cons ar_nil))) (by decide)) (sa_cons (se_tup (sa_cons (se_var (pv 0)) (sa_cons (se_var (pv 2)) (sa_cons (se_var (pv 1)) sa_nil))) (ar_cons (ar_cons (ar_cons ar_nil))) (by decide)) (sa_cons (se_tup (sa_cons (se_var (pv 0)) (sa_cons (se_var (pv 1)) (sa_cons (se_var (pv 2)) sa_nil))) (ar_cons (ar_cons (ar_cons ar_nil))) (by decide)) sa_nil))) (ar_cons (ar_cons (ar_cons ar_nil))) (by decide))) (sg_name sc__law_weighed.nd rfl (by first | exact .inl rfl | exact .inr rfl)) (ss_one (s_app (pv 3) (se_call d__law_times hR.symm (hr.mono (by decide)) (fun σ => passAt (takes_of rfl rfl rfl rfl) σ) (by rfl) (sa_cons (se_call d__law_minus hR.symm (hr.mono (by decide)) (fun σ => passAt (takes_of rfl rfl rfl rfl) σ) (by rfl) (sa_cons (se_call d__law_plus hR.symm (hr.mono (by decide)) (fun σ => passAt (takes_of rfl rfl rfl rfl) σ) (by rfl) (sa_cons (se_ix (op_ix_ok hR.symm) (se_var (pv 4)) se_int (fun _ _ => rfl)) (sa_cons (se_ix (op_ix_ok hR.symm) (se_var (pv 4)) se_int (fun _ _ => rfl)) sa_nil)) (ar_cons (ar_cons ar_nil))) (sa_cons (se_ix (op_ix_ok hR.symm) (se_var (pv 4)) se_int (fun _ _ => rfl)) sa_nil)) (ar_cons (ar_cons ar_nil))) (sa_cons (se_tup (sa_cons se_int (sa_cons se_int sa_nil)) (ar_cons (ar_cons ar_nil)) (by decide)) sa_nil)) (ar_cons (ar_cons ar_nil))))))
    (ss_one (s_ret (se_b (pe_callTy (cr_tup_ok hR.symm) (by rfl) B.z_tuple (by rfl) (sa_cons (se_var (pv 3)) sa_nil)))))))
theorem ok__law_whole {f : Addr} {fd : FuncData} (Fn : Fun K "_law_whole" "_law_whole" s__law_whole f fd) (hm : mg "_law_whole" = some (.ref f)) (bd : Binds K fd ["_law_a", "_law_b", "_law_c"] []) (B : Bn mg)  : DefOk P w K mg base T 1 "_law_whole" 3 F__law_whole :=
  def_ok Fn sc__law_whole rfl hm bd (N := ["_law_a", "_law_b", "_law_c", "_law_mark", "_law_pairs"]) fun cdv A outer s H E R hR hr => (ss_cons (s_set sc__law_whole.nd rfl (by first | exact .inl rfl | exact .inr rfl) (se_op op_mod_ok (se_b (pe_callTy cr_int_ok (by rfl) B.z_int (by rfl) (sa_cons (se_op (op_add_ok hR.symm) (se_op (op_add_ok hR.symm) (se_var (pv 0)) (se_var (pv 1))) (se_var (pv 2))) sa_nil))) se_int))
    (ss_cons (s_set sc__law_whole.nd rfl (by first | exact .inl rfl | exact .inr rfl) (se_lst (sa_cons (se_op op_div_ok (se_op op_sub_ok (se_op op_sub_ok (se_op (op_add_ok hR.symm) (se_var (pv 1)) (se_var (pv 2))) (se_var (pv 0))) (se_var (pv 3))) se_int) (sa_cons (se_op op_div_ok (se_op op_sub_ok (se_op op_sub_ok (se_op (op_add_ok hR.symm) (se_var (pv 0)) (se_var (pv 2))) (se_var (pv 1))) (se_var (pv 3))) se_int) (sa_cons (se_op op_div_ok (se_op op_sub_ok (se_op op_sub_ok (se_op (op_add_ok hR.symm) (se_var (pv 0)) (se_var (pv 1))) (se_var (pv 2))) (se_var (pv 3))) se_int) sa_nil))) (ar_cons (ar_cons (ar_cons ar_nil))) (by decide)))
    (ss_one (s_ret (se_tup (sa_cons (se_var (pv 3)) (sa_cons (se_ix (op_ix_ok hR.symm) (se_var (pv 4)) se_int (fun _ _ => rfl)) (sa_cons (se_ix (op_ix_ok hR.symm) (se_var (pv 4)) se_int (fun _ _ => rfl)) (sa_cons (se_ix (op_ix_ok hR.symm) (se_var (pv 4)) se_int (fun _ _ => rfl)) (sa_cons se_int sa_nil))))) (ar_cons (ar_cons (ar_cons (ar_cons (ar_cons ar_nil))))) (by decide))))))
theorem ok__law_refused {f : Addr} {fd : FuncData} (Fn : Fun K "_law_refused" "_law_refused" s__law_refused f fd) (hm : mg "_law_refused" = some (.ref f)) (bd : Binds K fd ["_law_a", "_law_b", "_law_c", "_law_sure"] []) (B : Bn mg) (Ex : Exs P w K mg base T C0 C1 C4) (d_triangle : DefOk P w K mg base T 4 "triangle" 3 F_triangle) (d_from_triangle : DefOk P w K mg base T 5 "from_triangle" 3 F_from_triangle) : DefOk P w K mg base T 6 "_law_refused" 4 F__law_refused :=
  def_ok Fn sc__law_refused rfl hm bd (N := ["_law_a", "_law_b", "_law_c", "_law_sure", "_law_told", "e"]) fun cdv A outer s H E R hR hr => (ss_cons (s_set sc__law_refused.nd rfl (by first | exact .inl rfl | exact .inr rfl) se_non)
    (ss_cons (s_try hR.symm rfl rfl sc__law_refused.nd (takes_of rfl rfl rfl rfl) (fun W2 pn2 xe2 tk2 hp2 => (ss_one (s_if (st_val (se_var (pv 3))) (ss_one (s_expr (se_call d_from_triangle hR.symm (hr.mono (by decide)) (fun σ => passAt tk2 σ) (by rfl) (sa_cons (se_var (pv 0)) (sa_cons (se_var (pv 1)) (sa_cons (se_var (pv 2)) sa_nil))) (ar_cons (ar_cons (ar_cons ar_nil)))))) (ss_one (s_expr (se_call d_triangle hR.symm (hr.mono (by decide)) (fun σ => passAt tk2 σ) (by rfl) (sa_cons (se_var (pv 0)) (sa_cons (se_var (pv 1)) (sa_cons (se_var (pv 2)) sa_nil))) (ar_cons (ar_cons (ar_cons ar_nil))))))))) (.as (i := 5) rfl rfl ⟨rfl, by decide, Or.inl Ex.g_BadNumber⟩ (fun a oe cls d pn hz hf => tsu_of fun R2 hK2 hxa xh => (ss_one (s_set sc__law_refused.nd rfl (by first | exact .inl rfl | exact .inr rfl) (se_fld [1] hxa xh hz hf (xf_of Ex.e_BadNumber) (pv 5))))) (.as (i := 5) rfl rfl ⟨rfl, by decide, Or.inl Ex.g_MergeError⟩ (fun a oe cls d pn hz hf => tsu_of fun R2 hK2 hxa xh => (ss_one (s_set sc__law_refused.nd rfl (by first | exact .inl rfl | exact .inr rfl) se_str))) .nil)) (.cons Ex.x_BadNumber (.cons Ex.x_MergeError .nil)))
    (ss_one (s_ret (se_var (pv 4))))))
theorem ok_law {f : Addr} {fd : FuncData} (Fn : Fun K "law" "law" s_law f fd) (B : Bn mg) (d_triangle : DefOk P w K mg base T 4 "triangle" 3 F_triangle) (d_from_triangle : DefOk P w K mg base T 5 "from_triangle" 3 F_from_triangle) (d_cut_rates : DefOk P w K mg base T 7 "cut_rates" 2 F_cut_rates) (d__law_draws : DefOk P w K mg base T 1 "_law_draws" 1 F__law_draws) (d__law_pick : DefOk P w K mg base T 1 "_law_pick" 3 F__law_pick) (d__law_frac : DefOk P w K mg base T 2 "_law_frac" 2 F__law_frac) (d__law_plus : DefOk P w K mg base T 3 "_law_plus" 2 F__law_plus) (d__law_less : DefOk P w K mg base T 1 "_law_less" 2 F__law_less) (d__law_handed : DefOk P w K mg base T 1 "_law_handed" 1 F__law_handed) (d__law_cuts : DefOk P w K mg base T 2 "_law_cuts" 1 F__law_cuts) (d__law_leave : DefOk P w K mg base T 4 "_law_leave" 3 F__law_leave) (d__law_amounts : DefOk P w K mg base T 4 "_law_amounts" 1 F__law_amounts) (d__law_weighed : DefOk P w K mg base T 4 "_law_weighed" 3 F__law_weighed) (d__law_whole : DefOk P w K mg base T 1 "_law_whole" 3 F__law_whole) (d__law_refused : DefOk P w K mg base T 6 "_law_refused" 4 F__law_refused) : FnOk P w K mg base (L2.CX P w) 8 f fd ["_law_script"] (spF T K 1 F_law) :=
  def_fn Fn sc_law rfl (N := ["_law_script", "_law_draws_here", "_law_told", "_law_a", "_law_b", "_law_c", "_law_handed_here", "_law_due", "_law_over", "_law_verdict", "_law_row", "_law_free", "_law_exits", "_law_bad", "_law_k", "_law_t"]) fun cdv A outer s H E R hR hr => (ss_cons (s_set sc_law.nd rfl (by first | exact .inl rfl | exact .inr rfl) (se_call d__law_draws hR.symm (hr.mono (by decide)) (fun σ => passAt (takes_of rfl rfl rfl rfl) σ) (by rfl) (sa_cons (se_var (pv 0)) sa_nil) (ar_cons ar_nil)))
    (ss_cons (s_set sc_law.nd rfl (by first | exact .inl rfl | exact .inr rfl) (se_call d__law_amounts hR.symm (hr.mono (by decide)) (fun σ => passAt (takes_of rfl rfl rfl rfl) σ) (by rfl) (sa_cons (se_var (pv 1)) sa_nil) (ar_cons ar_nil)))
    (ss_cons (s_set sc_law.nd rfl (by first | exact .inl rfl | exact .inr rfl) (se_ix (op_ix_ok hR.symm) (se_var (pv 2)) se_int (fun _ _ => rfl)))
    (ss_cons (s_set sc_law.nd rfl (by first | exact .inl rfl | exact .inr rfl) (se_ix (op_ix_ok hR.symm) (se_var (pv 2)) se_int (fun _ _ => rfl)))
    (ss_cons (s_set sc_law.nd rfl (by first | exact .inl rfl | exact .inr rfl) (se_ix (op_ix_ok hR.symm) (se_var (pv 2)) se_int (fun _ _ => rfl)))
    (ss_cons (s_set sc_law.nd rfl (by first | exact .inl rfl | exact .inr rfl) (se_call d__law_handed hR.symm (hr.mono (by decide)) (fun σ => passAt (takes_of rfl rfl rfl rfl) σ) (by rfl) (sa_cons (se_var (pv 2)) sa_nil) (ar_cons ar_nil)))
    (ss_cons (s_set sc_law.nd rfl (by first | exact .inl rfl | exact .inr rfl) (se_call d__law_weighed hR.symm (hr.mono (by decide)) (fun σ => passAt (takes_of rfl rfl rfl rfl) σ) (by rfl) (sa_cons (se_var (pv 3)) (sa_cons (se_var (pv 4)) (sa_cons (se_var (pv 5)) sa_nil))) (ar_cons (ar_cons (ar_cons ar_nil)))))
    (ss_cons (s_if (PW.pt (sw_or (st_cmp (op_ne_ok hR.symm hr.units) (se_call d_triangle hR.symm (hr.mono (by decide)) (fun σ => passAt (takes_of rfl rfl rfl rfl) σ) (by rfl) (sa_cons (se_var (pv 3)) (sa_cons (se_var (pv 4)) (sa_cons (se_var (pv 5)) sa_nil))) (ar_cons (ar_cons (ar_cons ar_nil)))) (se_var (pv 7)) (nomark _)) (sw_or1 (st_cmp (op_ne_ok hR.symm hr.units) (se_call d_triangle hR.symm (hr.mono (by decide)) (fun σ => passAt (takes_of rfl rfl rfl rfl) σ) (by rfl) (sa_cons (se_ix (op_ix_ok hR.symm) (se_var (pv 6)) se_int (fun _ _ => rfl)) (sa_cons (se_ix (op_ix_ok hR.symm) (se_var (pv 6)) se_int (fun _ _ => rfl)) (sa_cons (se_ix (op_ix_ok hR.symm) (se_var (pv 6)) se_int (fun _ _ => rfl)) sa_nil))) (ar_cons (ar_cons (ar_cons ar_nil)))) (se_var (pv 7)) (nomark _))))) (ss_one (s_ret se_bl)) ss_nil)
    (ss_cons (s_set sc_law.nd rfl (by first | exact .inl rfl | exact .inr rfl) (se_or (se_call d__law_less hR.symm (hr.mono (by decide)) (fun σ => passAt (takes_of rfl rfl rfl rfl) σ) (by rfl) (sa_cons (se_call d__law_plus hR.symm (hr.mono (by decide)) (fun σ => passAt (takes_of rfl rfl rfl rfl) σ) (by rfl) (sa_cons (se_var (pv 4)) (sa_cons (se_var (pv 5)) sa_nil)) (ar_cons (ar_cons ar_nil))) (sa_cons (se_var (pv 3)) sa_nil)) (ar_cons (ar_cons ar_nil))) (se_or (se_call d__law_less hR.symm (hr.mono (by decide)) (fun σ => passAt (takes_of rfl rfl rfl rfl) σ) (by rfl) (sa_cons (se_call d__law_plus hR.symm (hr.mono (by decide)) (fun σ => passAt (takes_of rfl rfl rfl rfl) σ) (by rfl) (sa_cons (se_var (pv 3)) (sa_cons (se_var (pv 5)) sa_nil)) (ar_cons (ar_cons ar_nil))) (sa_cons (se_var (pv 4)) sa_nil)) (ar_cons (ar_cons ar_nil))) (se_one (se_call d__law_less hR.symm (hr.mono (by decide)) (fun σ => passAt (takes_of rfl rfl rfl rfl) σ) (by rfl) (sa_cons (se_call d__law_plus hR.symm (hr.mono (by decide)) (fun σ => passAt (takes_of rfl rfl rfl rfl) σ) (by rfl) (sa_cons (se_var (pv 3)) (sa_cons (se_var (pv 4)) sa_nil)) (ar_cons (ar_cons ar_nil))) (sa_cons (se_var (pv 5)) sa_nil)) (ar_cons (ar_cons ar_nil)))))))
    (ss_cons (s_set sc_law.nd rfl (by first | exact .inl rfl | exact .inr rfl) (se_call d_from_triangle hR.symm (hr.mono (by decide)) (fun σ => passAt (takes_of rfl rfl rfl rfl) σ) (by rfl) (sa_cons (se_ix (op_ix_ok hR.symm) (se_var (pv 6)) se_int (fun _ _ => rfl)) (sa_cons (se_var (pv 4)) (sa_cons (se_ix (op_ix_ok hR.symm) (se_var (pv 6)) se_int (fun _ _ => rfl)) sa_nil))) (ar_cons (ar_cons (ar_cons ar_nil)))))
    (ss_cons (s_if (PW.pt (sw_and (st_val (se_var (pv 8))) (sw_and1 (st_cmp op_nis_ok (se_var (pv 9)) se_bl (nomark _))))) (ss_one (s_ret se_bl)) ss_nil)
    (ss_cons (s_if (PW.pt (sw_and (st_not (st_val (se_var (pv 8)))) (sw_and1 (st_cmp op_nis_ok (se_var (pv 9)) se_bl (nomark _))))) (ss_one (s_ret se_bl)) ss_nil)
    (ss_cons (s_if (st_cmp (op_ne_ok hR.symm hr.units) (se_call d_cut_rates hR.symm (hr.mono (by decide)) (fun σ => passAt (takes_of rfl rfl rfl rfl) σ) (by rfl) (sa_cons se_int (sa_cons (se_tup (sa_cons se_int (sa_cons (se_ix (op_ix_ok hR.symm) (se_var (pv 7)) se_int (fun _ _ => rfl)) (sa_cons (se_ix (op_ix_ok hR.symm) (se_var (pv 7)) se_int (fun _ _ => rfl)) (sa_cons (se_ix (op_ix_ok hR.symm) (se_var (pv 7)) se_int (fun _ _ => rfl)) (sa_cons se_int sa_nil))))) (ar_cons (ar_cons (ar_cons (ar_cons (ar_cons ar_nil))))) (by decide)) sa_nil)) (ar_cons (ar_cons ar_nil))) (se_tup (sa_cons (se_var (pv 5)) (sa_cons (se_var (pv 4)) (sa_cons (se_var (pv 3)) sa_nil))) (ar_cons (ar_cons (ar_cons ar_nil))) (by decide)) (nomark _)) (ss_one (s_ret se_bl)) ss_nil)
    (ss_cons (s_if (PW.pt (sw_and (st_not (st_val (se_var (pv 8)))) (sw_and (st_cmp (op_eq_ok hR.symm hr.units) (se_ix (op_ix_ok hR.symm) (se_var (pv 3)) se_int (fun _ _ => rfl)) se_int (nomark _)) (sw_and (st_cmp (op_eq_ok hR.symm hr.units) (se_ix (op_ix_ok hR.symm) (se_var (pv 4)) se_int (fun _ _ => rfl)) se_int (nomark _)) (sw_and1 (st_cmp (op_eq_ok hR.symm hr.units) (se_ix (op_ix_ok hR.symm) (se_var (pv 5)) se_int (fun _ _ => rfl)) se_int (nomark _))))))) (ss_cons (s_set sc_law.nd rfl (by first | exact .inl rfl | exact .inr rfl) (se_call d__law_whole hR.symm (hr.mono (by decide)) (fun σ => passAt (takes_of rfl rfl rfl rfl) σ) (by rfl) (sa_cons (se_ix (op_ix_ok hR.symm) (se_var (pv 3)) se_int (fun _ _ => rfl)) (sa_cons (se_ix (op_ix_ok hR.symm) (se_var (pv 4)) se_int (fun _ _ => rfl)) (sa_cons (se_ix (op_ix_ok hR.symm) (se_var (pv 5)) se_int (fun _ _ => rfl)) sa_nil))) (ar_cons (ar_cons (ar_cons ar_nil)))))
    (ss_one (s_if (PW.pt (sw_or (st_cmp op_lt_ok (se_b (pe_callB (cr_min_ok hR.symm rfl) (by rfl) B.z_min (by rfl) (sa_cons (se_var (pv 10)) sa_nil))) se_int (nomark _)) (sw_or1 (st_cmp (op_ne_ok hR.symm hr.units) (se_call d_cut_rates hR.symm (hr.mono (by decide)) (fun σ => passAt (takes_of rfl rfl rfl rfl) σ) (by rfl) (sa_cons se_int (sa_cons (se_var (pv 10)) sa_nil)) (ar_cons (ar_cons ar_nil))) (se_tup (sa_cons (se_var (pv 5)) (sa_cons (se_var (pv 4)) (sa_cons (se_var (pv 3)) sa_nil))) (ar_cons (ar_cons (ar_cons ar_nil))) (by decide)) (nomark _))))) (ss_one (s_ret se_bl)) ss_nil))) ss_nil)
    (ss_cons (s_set sc_law.nd rfl (by first | exact .inl rfl | exact .inr rfl) (se_lc (own := [("_law_k", 14)]) (wr := [14]) (takes_of rfl rfl rfl rfl) rfl rfl rfl sc_law.nd (si_range1 (by rfl) B.z_range (sa_cons se_int sa_nil)) (show BlkOk ["_law_script", "_law_draws_here", "_law_told", "_law_a", "_law_b", "_law_c", "_law_handed_here", "_law_due", "_law_over", "_law_verdict", "_law_row", "_law_free", "_law_exits", "_law_bad", "_law_k", "_law_t"] (defScope s_law) _ _ from ⟨rfl, by decide +kernel, by decide +kernel, by decide +kernel, by decide +kernel⟩) ⟨fun s H C cl fp xe W R1 hK1 air1 => ⟨(sg_name sc_law.nd rfl (by first | exact .inl rfl | exact .inr rfl)), sts_nil, (se_call d__law_frac (hR.symm.trans hK1.symm) (hr.mono (by decide)) air1 (by rfl) (sa_cons (se_call d__law_pick (hR.symm.trans hK1.symm) (hr.mono (by decide)) air1 (by rfl) (sa_cons (se_var (pv 1)) (sa_cons (se_op (op_add_ok (hR.symm.trans hK1.symm)) se_int (se_var (pv 14))) (sa_cons se_int sa_nil))) (ar_cons (ar_cons (ar_cons ar_nil)))) (sa_cons (se_op (op_add_ok (hR.symm.trans hK1.symm)) se_int (se_call d__law_pick (hR.symm.trans hK1.symm) (hr.mono (by decide)) air1 (by rfl) (sa_cons (se_var (pv 1)) (sa_cons (se_op (op_add_ok (hR.symm.trans hK1.symm)) se_int (se_var (pv 14))) (sa_cons se_int sa_nil))) (ar_cons (ar_cons (ar_cons ar_nil))))) sa_nil)) (ar_cons (ar_cons ar_nil)))⟩⟩ (by decide)))
    (ss_cons (s_set sc_law.nd rfl (by first | exact .inl rfl | exact .inr rfl) (se_call d_cut_rates hR.symm (hr.mono (by decide)) (fun σ => passAt (takes_of rfl rfl rfl rfl) σ) (by rfl) (sa_cons se_int (sa_cons (se_op (op_add_ok hR.symm) (se_var (pv 11)) (se_lst (sa_cons se_int sa_nil) (ar_cons ar_nil) (by decide))) sa_nil)) (ar_cons (ar_cons ar_nil))))
    (ss_cons (s_if (st_cmp (op_ne_ok hR.symm hr.units) (se_var (pv 12)) (se_b (pe_callTy (cr_tup_ok hR.symm) (by rfl) B.z_tuple (by rfl) (sa_cons (se_lc (own := [("_law_t", 15)]) (wr := [15]) (takes_of rfl rfl rfl rfl) rfl rfl rfl sc_law.nd (si_seq hR.symm (se_call d__law_cuts hR.symm (hr.mono (by decide)) (fun σ => passAt (takes_of rfl rfl rfl rfl) σ) (by rfl) (sa_cons se_int sa_nil) (ar_cons ar_nil))) (show BlkOk ["_law_script", "_law_draws_here", "_law_told", "_law_a", "_law_b", "_law_c", "_law_handed_here", "_law_due", "_law_over", "_law_verdict", "_law_row", "_law_free", "_law_exits", "_law_bad", "_law_k", "_law_t"] (defScope s_law) _ _ from ⟨rfl, by decide +kernel, by decide +kernel, by decide +kernel, by decide +kernel⟩) ⟨fun s H C cl fp xe W R1 hK1 air1 => ⟨(sg_name sc_law.nd rfl (by first | exact .inl rfl | exact .inr rfl)), sts_nil, (se_call d__law_leave (hR.symm.trans hK1.symm) (hr.mono (by decide)) air1 (by rfl) (sa_cons se_int (sa_cons (se_op (op_add_ok (hR.symm.trans hK1.symm)) (se_var (pv 11)) (se_lst (sa_cons (se_tup (sa_cons se_int (sa_cons se_int sa_nil)) (ar_cons (ar_cons ar_nil)) (by decide)) sa_nil) (ar_cons ar_nil) (by decide))) (sa_cons (se_var (pv 15)) sa_nil))) (ar_cons (ar_cons (ar_cons ar_nil))))⟩⟩ (by decide)) sa_nil))) (nomark _)) (ss_one (s_ret se_bl)) ss_nil)
    (ss_cons (s_if (st_cmp op_nis_ok (se_call d_from_triangle hR.symm (hr.mono (by decide)) (fun σ => passAt (takes_of rfl rfl rfl rfl) σ) (by rfl) (sa_cons (se_ix (op_ix_ok hR.symm) (se_var (pv 12)) se_int (fun _ _ => rfl)) (sa_cons (se_ix (op_ix_ok hR.symm) (se_var (pv 12)) se_int (fun _ _ => rfl)) (sa_cons (se_ix (op_ix_ok hR.symm) (se_var (pv 12)) se_int (fun _ _ => rfl)) sa_nil))) (ar_cons (ar_cons (ar_cons ar_nil)))) se_bl (nomark _)) (ss_one (s_ret se_bl)) ss_nil)
    (ss_cons (s_set sc_law.nd rfl (by first | exact .inl rfl | exact .inr rfl) (se_ix (op_ix_ok hR.symm) (se_lst (sa_cons (se_tup (sa_cons se_int (sa_cons se_int sa_nil)) (ar_cons (ar_cons ar_nil)) (by decide)) (sa_cons se_bl (sa_cons se_non sa_nil))) (ar_cons (ar_cons (ar_cons ar_nil))) (by decide)) (se_call d__law_pick hR.symm (hr.mono (by decide)) (fun σ => passAt (takes_of rfl rfl rfl rfl) σ) (by rfl) (sa_cons (se_var (pv 1)) (sa_cons se_int (sa_cons se_int sa_nil))) (ar_cons (ar_cons (ar_cons ar_nil)))) (fun _ _ => rfl)))
    (ss_cons (s_if (PW.pt (sw_or (st_cmp (op_ne_ok hR.symm hr.units) (se_call d__law_refused hR.symm (hr.mono (by decide)) (fun σ => passAt (takes_of rfl rfl rfl rfl) σ) (by rfl) (sa_cons (se_var (pv 13)) (sa_cons (se_var (pv 13)) (sa_cons (se_var (pv 4)) (sa_cons se_bl sa_nil)))) (ar_cons (ar_cons (ar_cons (ar_cons ar_nil))))) se_str (nomark _)) (sw_or1 (st_cmp (op_ne_ok hR.symm hr.units) (se_call d__law_refused hR.symm (hr.mono (by decide)) (fun σ => passAt (takes_of rfl rfl rfl rfl) σ) (by rfl) (sa_cons (se_var (pv 3)) (sa_cons (se_var (pv 13)) (sa_cons (se_var (pv 13)) (sa_cons se_bl sa_nil)))) (ar_cons (ar_cons (ar_cons (ar_cons ar_nil))))) se_str (nomark _))))) (ss_one (s_ret se_bl)) ss_nil)
    (ss_one (s_ret (se_and (se_cmp (op_eq_ok hR.symm hr.units) (se_call d__law_refused hR.symm (hr.mono (by decide)) (fun σ => passAt (takes_of rfl rfl rfl rfl) σ) (by rfl) (sa_cons (se_var (pv 3)) (sa_cons (se_var (pv 4)) (sa_cons (se_var (pv 13)) (sa_cons se_bl sa_nil)))) (ar_cons (ar_cons (ar_cons (ar_cons ar_nil))))) se_str (nomark _)) (se_one (se_cmp (op_eq_ok hR.symm hr.units) (se_call d__law_refused hR.symm (hr.mono (by decide)) (fun σ => passAt (takes_of rfl rfl rfl rfl) σ) (by rfl) (sa_cons (se_var (pv 3)) (sa_cons (se_var (pv 4)) (sa_cons (se_var (pv 13)) (sa_cons se_bl sa_nil)))) (ar_cons (ar_cons (ar_cons (ar_cons ar_nil))))) se_str (nomark _))))))))))))))))))))))))))
end
end Lk54

namespace Lk54
open MR
/-! ### the amounts, told by rationals -/
theorem e_whole_int (i : Int) : F_whole_number [.int i] = .ok (.bl true) false := by rfl
theorem e_whole_tup (l : List D) : F_whole_number [.tup l] = .ok (.bl false) false := by rfl
theorem e_asf_int (i : Int) : F_as_fraction [.int i] = .ok (.tup [.int i, .int 1]) false := by rfl
theorem e_asf_tup (l : List D) : F_as_fraction [.tup l] = .ok (.tup l) false := by rfl
theorem e_asf (q : Rat) : F_as_fraction [fr q] = .ok (fr q) false := by rfl
theorem e_reduced {t : Int} {b n : Nat} (h : b ≠ 0) (hb : b < 2 ^ n) (hn : n < 9000) : F_reduced [.int t, .int b] = .ok (fr (mkRat t b)) false := by
  have hg : 0 < Nat.gcd t.natAbs (b : Int).natAbs := Nat.gcd_pos_of_pos_right _ (by omega)
  have hle : Nat.gcd t.natAbs (b : Int).natAbs ≤ b := Nat.gcd_le_right _ (by omega)
  have c1 : ∀ i, cDiv i ((Nat.gcd t.natAbs (b : Int).natAbs : Nat) : Int) = true := fun i => cDiv_ok (n := n) (by omega) (by omega) hn
  have c2 : decide ((b : Int) < 0) = false := decide_eq_false (by omega)
  rw [← fr_mk h]
  show outF (g_reduced [.fz (.int t), .fz (.int b), .un]) = _
  unfold g_reduced
  simp only [mkF, outF, inA, sSeq, sNil, sIf, sRet, vRet, sExpr, sAsg, putV, putV0, sget, sset, eVar, eC, aNil, aCons, hold, settle, settleL, cont, contL, eTup, eLst, eB, eOp, eU, noX, eRes, mkV, tst, vTst, tNt, tAn, tOrr, eIf, eAn, eOr, eNot, eCall, sPar_a, sPar3_a, sParW, put2, put3, sAsgT, gTpl, gsCons, gsNil, gNm, sRaise, bLen, bAbs, bInt, bTup, bLst, bGcd, opIsa, opIsaLT, isa, opIx, opNeg, opAdd, opSub_a, opMul_a, opDiv_a, opMod_a, opLt_a, opLe_a, opGt_a, opGe_a, opI, opJ, ycs, opIs, opNis, isP, isNon, List.map_cons, List.map_nil, List.length_cons, List.length_nil, List.cons_append, List.nil_append, Bool.not_true, Bool.not_false, Bool.or_true, Bool.true_or, Bool.or_false, Bool.false_or, Nat.zero_add, Nat.reduceAdd, Int.cast_ofNat_Int, beq_self_eq_true, eq_self, c2, c1, if_true]
  rfl
theorem e_added {p q : Rat} {n m : Nat} (hp : Sz n p) (hq : Sz m q) (h : n + m < 8000) : F_added [fr p, fr q] = .ok (fr (p + q)) false := by
  have c1 : cMul p.num q.den = true := cMul_ok hp.num (by simpa using hq.den) (by omega)
  have c2 : cMul q.num p.den = true := cMul_ok hq.num (by simpa using hp.den) (by omega)
  have c3 : cMul (p.den : Int) (q.den : Int) = true := cMul_ok (by simpa using hp.den) (by simpa using hq.den) (by omega)
  have key := e_reduced (t := p.num * q.den + q.num * p.den) (b := p.den * q.den) mul_den_ne (cross_lt hp hq).2.2.1 (by omega)
  rw [Int.natCast_mul] at key
  rw [Rat.add_def']
  show outF (g_added [.fz (.tup [.int p.num, .int p.den]), .fz (.tup [.int q.num, .int q.den])]) = _
  unfold g_added
  simp only [mkF, outF, inA, sSeq, sNil, sIf, sRet, vRet, sExpr, sAsg, putV, putV0, sget, sset, eVar, eC, aNil, aCons, hold, settle, settleL, cont, contL, eTup, eLst, eB, eOp, eU, noX, eRes, mkV, tst, vTst, tNt, tAn, tOrr, eIf, eAn, eOr, eNot, eCall, sPar_a, sPar3_a, sParW, put2, put3, sAsgT, gTpl, gsCons, gsNil, gNm, sRaise, bLen, bAbs, bInt, bTup, bLst, bGcd, opIsa, opIsaLT, isa, opIx, opNeg, opAdd, opSub_a, opMul_a, opDiv_a, opMod_a, opLt_a, opLe_a, opGt_a, opGe_a, opI, opJ, ycs, opIs, opNis, isP, isNon, List.map_cons, List.map_nil, List.length_cons, List.length_nil, List.cons_append, List.nil_append, Bool.not_true, Bool.not_false, Bool.or_true, Bool.true_or, Bool.or_false, Bool.false_or, Nat.zero_add, Nat.reduceAdd, Int.cast_ofNat_Int, beq_self_eq_true, eq_self, at2_0, at2_1, at3_0, at3_1, at3_2, c1, c2, c3, if_true, key]
theorem e_taken {p q : Rat} {n m : Nat} (hp : Sz n p) (hq : Sz m q) (h : n + m < 8000) : F_taken [fr p, fr q] = .ok (fr (p - q)) false := by
  have c1 : cMul p.num q.den = true := cMul_ok hp.num (by simpa using hq.den) (by omega)
  have c2 : cMul q.num p.den = true := cMul_ok hq.num (by simpa using hp.den) (by omega)
  have c3 : cMul (p.den : Int) (q.den : Int) = true := cMul_ok (by simpa using hp.den) (by simpa using hq.den) (by omega)
  have key := e_reduced (t := p.num * q.den - q.num * p.den) (b := p.den * q.den) mul_den_ne (cross_lt hp hq).2.2.1 (by omega)
  rw [Int.natCast_mul] at key
  rw [Rat.sub_def']
  show outF (g_taken [.fz (.tup [.int p.num, .int p.den]), .fz (.tup [.int q.num, .int q.den])]) = _
  unfold g_taken
  simp only [mkF, outF, inA, sSeq, sNil, sIf, sRet, vRet, sExpr, sAsg, putV, putV0, sget, sset, eVar, eC, aNil, aCons, hold, settle, settleL, cont, contL, eTup, eLst, eB, eOp, eU, noX, eRes, mkV, tst, vTst, tNt, tAn, tOrr, eIf, eAn, eOr, eNot, eCall, sPar_a, sPar3_a, sParW, put2, put3, sAsgT, gTpl, gsCons, gsNil, gNm, sRaise, bLen, bAbs, bInt, bTup, bLst, bGcd, opIsa, opIsaLT, isa, opIx, opNeg, opAdd, opSub_a, opMul_a, opDiv_a, opMod_a, opLt_a, opLe_a, opGt_a, opGe_a, opI, opJ, ycs, opIs, opNis, isP, isNon, List.map_cons, List.map_nil, List.length_cons, List.length_nil, List.cons_append, List.nil_append, Bool.not_true, Bool.not_false, Bool.or_true, Bool.true_or, Bool.or_false, Bool.false_or, Nat.zero_add, Nat.reduceAdd, Int.cast_ofNat_Int, beq_self_eq_true, eq_self, at2_0, at2_1, at3_0, at3_1, at3_2, c1, c2, c3, if_true, key]
theorem e_product {p q : Rat} {n m : Nat} (hp : Sz n p) (hq : Sz m q) (h : n + m < 8000) : F_product_of [fr p, fr q] = .ok (fr (p * q)) false := by
  have c1 : cMul p.num q.num = true := cMul_ok hp.num hq.num (by omega)
  have c3 : cMul (p.den : Int) (q.den : Int) = true := cMul_ok (by simpa using hp.den) (by simpa using hq.den) (by omega)
  have key := e_reduced (t := p.num * q.num) (b := p.den * q.den) mul_den_ne (cross_lt hp hq).2.2.1 (by omega)
  rw [Int.natCast_mul] at key
  rw [Rat.mul_def']
  show outF (g_product_of [.fz (.tup [.int p.num, .int p.den]), .fz (.tup [.int q.num, .int q.den])]) = _
  unfold g_product_of
  simp only [mkF, outF, inA, sSeq, sNil, sIf, sRet, vRet, sExpr, sAsg, putV, putV0, sget, sset, eVar, eC, aNil, aCons, hold, settle, settleL, cont, contL, eTup, eLst, eB, eOp, eU, noX, eRes, mkV, tst, vTst, tNt, tAn, tOrr, eIf, eAn, eOr, eNot, eCall, sPar_a, sPar3_a, sParW, put2, put3, sAsgT, gTpl, gsCons, gsNil, gNm, sRaise, bLen, bAbs, bInt, bTup, bLst, bGcd, opIsa, opIsaLT, isa, opIx, opNeg, opAdd, opSub_a, opMul_a, opDiv_a, opMod_a, opLt_a, opLe_a, opGt_a, opGe_a, opI, opJ, ycs, opIs, opNis, isP, isNon, List.map_cons, List.map_nil, List.length_cons, List.length_nil, List.cons_append, List.nil_append, Bool.not_true, Bool.not_false, Bool.or_true, Bool.true_or, Bool.or_false, Bool.false_or, Nat.zero_add, Nat.reduceAdd, Int.cast_ofNat_Int, beq_self_eq_true, eq_self, at2_0, at2_1, at3_0, at3_1, at3_2, c1, c3, if_true, key]
theorem shd_loop : ∀ (m a b : Nat) (x y : Sl), b < m →
    whL (tst (eOp opGt (eVar 3) (eC (.int 0)))) (sPar 2 3 (aCons (eVar 3) (aCons (eOp opMod (eB bInt (aCons (eVar 2) aNil)) (eVar 3)) aNil))) m [x, y, .fz (.int a), .fz (.int b)] = .nx [x, y, .fz (.int (Nat.gcd a b : Nat)), .fz (.int 0)]
  | 0, a, b, x, y, h => by omega
  | m + 1, a, b, x, y, h => by
    by_cases z : b = 0
    · subst z
      simp only [whL, mkF, outF, inA, sSeq, sNil, sIf, sRet, vRet, sExpr, sAsg, putV, putV0, sget, sset, eVar, eC, aNil, aCons, hold, settle, settleL, cont, contL, eTup, eLst, eB, eOp, eU, noX, eRes, mkV, tst, vTst, tNt, tAn, tOrr, eIf, eAn, eOr, eNot, eCall, sPar_a, sPar3_a, sParW, put2, put3, sAsgT, gTpl, gsCons, gsNil, gNm, sRaise, bLen, bAbs, bInt, bTup, bLst, bGcd, opIsa, opIsaLT, isa, opIx, opNeg, opAdd, opSub_a, opMul_a, opDiv_a, opMod_a, opLt_a, opLe_a, opGt_a, opGe_a, opI, opJ, ycs, opIs, opNis, isP, isNon, List.map_cons, List.map_nil, List.length_cons, List.length_nil, List.cons_append, List.nil_append, Bool.not_true, Bool.not_false, Bool.or_true, Bool.true_or, Bool.or_false, Bool.false_or, Nat.zero_add, Nat.reduceAdd, Int.cast_ofNat_Int, beq_self_eq_true, eq_self, Nat.gcd_zero_right]
      rfl
    · have c1 : decide ((0 : Int) < (b : Int)) = true := decide_eq_true (by omega)
      have c2 : cMod (a : Int) (b : Int) = true := decide_eq_true (by omega)
      have ih := shd_loop m b (a % b) x y (by have := Nat.mod_lt a (Nat.pos_of_ne_zero z); omega)
      rw [gcd_step, ← ih]
      have e : ((a : Int) % (b : Int)) = ((a % b : Nat) : Int) := by simp
      conv => lhs; unfold whL
      simp only [mkF, outF, inA, sSeq, sNil, sIf, sRet, vRet, sExpr, sAsg, putV, putV0, sget, sset, eVar, eC, aNil, aCons, hold, settle, settleL, cont, contL, eTup, eLst, eB, eOp, eU, noX, eRes, mkV, tst, vTst, tNt, tAn, tOrr, eIf, eAn, eOr, eNot, eCall, sPar_a, sPar3_a, sParW, put2, put3, sAsgT, gTpl, gsCons, gsNil, gNm, sRaise, bLen, bAbs, bInt, bTup, bLst, bGcd, opIsa, opIsaLT, isa, opIx, opNeg, opAdd, opSub_a, opMul_a, opDiv_a, opMod_a, opLt_a, opLe_a, opGt_a, opGe_a, opI, opJ, ycs, opIs, opNis, isP, isNon, List.map_cons, List.map_nil, List.length_cons, List.length_nil, List.cons_append, List.nil_append, Bool.not_true, Bool.not_false, Bool.or_true, Bool.true_or, Bool.or_false, Bool.false_or, Nat.zero_add, Nat.reduceAdd, Int.cast_ofNat_Int, beq_self_eq_true, eq_self, c1, c2, if_true, e]
theorem e_shared (a b : Int) : F_shared_divisor [.int a, .int b] = .ok (.int (Nat.gcd a.natAbs b.natAbs : Nat)) false := by
  have ha : (if a < 0 then -a else a) = (a.natAbs : Int) := by split <;> omega
  have hb : (if b < 0 then -b else b) = (b.natAbs : Int) := by split <;> omega
  show outF (g_shared_divisor [.fz (.int a), .fz (.int b), .un, .un]) = _
  unfold g_shared_divisor
  simp only [mkF, outF, inA, sSeq, sNil, sIf, sRet, vRet, sExpr, sAsg, putV, putV0, sget, sset, eVar, eC, aNil, aCons, hold, settle, settleL, cont, contL, eTup, eLst, eB, eOp, eU, noX, eRes, mkV, tst, vTst, tNt, tAn, tOrr, eIf, eAn, eOr, eNot, eCall, sPar_a, sPar3_a, sParW, put2, put3, sAsgT, gTpl, gsCons, gsNil, gNm, sRaise, bLen, bAbs, bInt, bTup, bLst, bGcd, opIsa, opIsaLT, isa, opIx, opNeg, opAdd, opSub_a, opMul_a, opDiv_a, opMod_a, opLt_a, opLe_a, opGt_a, opGe_a, opI, opJ, ycs, opIs, opNis, isP, isNon, List.map_cons, List.map_nil, List.length_cons, List.length_nil, List.cons_append, List.nil_append, Bool.not_true, Bool.not_false, Bool.or_true, Bool.true_or, Bool.or_false, Bool.false_or, Nat.zero_add, Nat.reduceAdd, Int.cast_ofNat_Int, beq_self_eq_true, eq_self, ha, hb, sWh]
  rw [shd_loop _ _ _ _ _ (by simp)]
  rfl
theorem e_amount_int (i : Int) : F_is_amount [.int i] = .ok (.bl true) false := by rfl
theorem e_amount (q : Rat) : F_is_amount [fr q] = .ok (.bl true) false := by
  have c1 : decide ((1 : Int) ≤ (q.den : Int)) = true := decide_eq_true (by have := q.den_pos; omega)
  have c2 : Nat.gcd q.num.natAbs (q.den : Int).natAbs = 1 := q.reduced
  show outF (g_is_amount [.fz (.tup [.int q.num, .int q.den]), .un, .un]) = _
  unfold g_is_amount
  simp only [mkF, outF, inA, sSeq, sNil, sIf, sRet, vRet, sExpr, sAsg, putV, putV0, sget, sset, eVar, eC, aNil, aCons, hold, settle, settleL, cont, contL, eTup, eLst, eB, eOp, eU, noX, eRes, mkV, tst, vTst, tNt, tAn, tOrr, eIf, eAn, eOr, eNot, eCall, sPar_a, sPar3_a, sParW, put2, put3, sAsgT, gTpl, gsCons, gsNil, gNm, sRaise, bLen, bAbs, bInt, bTup, bLst, bGcd, opIsa, opIsaLT, isa, opIx, opNeg, opAdd, opSub_a, opMul_a, opDiv_a, opMod_a, opLt_a, opLe_a, opGt_a, opGe_a, opI, opJ, ycs, opIs, opNis, isP, isNon, List.map_cons, List.map_nil, List.length_cons, List.length_nil, List.cons_append, List.nil_append, Bool.not_true, Bool.not_false, Bool.or_true, Bool.true_or, Bool.or_false, Bool.false_or, Nat.zero_add, Nat.reduceAdd, Int.cast_ofNat_Int, beq_self_eq_true, eq_self, e_whole_tup, e_whole_int, e_shared, c1, c2, opEq, opNe, eqP_int]
/-- a number as it is handed in: a fraction, or an int -/
def Amt (d : D) (q : Rat) : Prop := d = fr q ∨ (q.den = 1 ∧ d = .int q.num)
theorem e_amt {d : D} {q : Rat} (h : Amt d q) : F_is_amount [d] = .ok (.bl true) false ∧ F_as_fraction [d] = .ok (fr q) false := by
  rcases h with h | ⟨h1, h2⟩
  · subst h; exact ⟨e_amount q, e_asf q⟩
  · subst h2
    refine ⟨e_amount_int _, ?_⟩
    rw [e_asf_int]; unfold fr; rw [h1]; rfl
theorem e_checked {d w : D} {q : Rat} (h : Amt d q) : F_checked_amount [d, w] = .ok (fr q) false := by
  obtain ⟨h1, h2⟩ := e_amt h
  show outF (g_checked_amount [.fz d, .fz w]) = _
  unfold g_checked_amount
  simp only [mkF, outF, inA, sSeq, sNil, sIf, sRet, vRet, sExpr, sAsg, putV, putV0, sget, sset, eVar, eC, aNil, aCons, hold, settle, settleL, cont, contL, eTup, eLst, eB, eOp, eU, noX, eRes, mkV, tst, vTst, tNt, tAn, tOrr, eIf, eAn, eOr, eNot, eCall, sPar_a, sPar3_a, sParW, put2, put3, sAsgT, gTpl, gsCons, gsNil, gNm, sRaise, bLen, bAbs, bInt, bTup, bLst, bGcd, opIsa, opIsaLT, isa, opIx, opNeg, opAdd, opSub_a, opMul_a, opDiv_a, opMod_a, opLt_a, opLe_a, opGt_a, opGe_a, opI, opJ, ycs, opIs, opNis, isP, isNon, List.map_cons, List.map_nil, List.length_cons, List.length_nil, List.cons_append, List.nil_append, Bool.not_true, Bool.not_false, Bool.or_true, Bool.true_or, Bool.or_false, Bool.false_or, Nat.zero_add, Nat.reduceAdd, Int.cast_ofNat_Int, beq_self_eq_true, eq_self, h1, h2]
theorem e_checked_no {d w : D} (h : F_is_amount [d] = .ok (.bl false) false) : F_checked_amount [d, w] = .exc 1 [w] := by
  show outF (g_checked_amount [.fz d, .fz w]) = _
  unfold g_checked_amount
  simp only [mkF, outF, inA, sSeq, sNil, sIf, sRet, vRet, sExpr, sAsg, putV, putV0, sget, sset, eVar, eC, aNil, aCons, hold, settle, settleL, cont, contL, eTup, eLst, eB, eOp, eU, noX, eRes, mkV, tst, vTst, tNt, tAn, tOrr, eIf, eAn, eOr, eNot, eCall, sPar_a, sPar3_a, sParW, put2, put3, sAsgT, gTpl, gsCons, gsNil, gNm, sRaise, bLen, bAbs, bInt, bTup, bLst, bGcd, opIsa, opIsaLT, isa, opIx, opNeg, opAdd, opSub_a, opMul_a, opDiv_a, opMod_a, opLt_a, opLe_a, opGt_a, opGe_a, opI, opJ, ycs, opIs, opNis, isP, isNon, List.map_cons, List.map_nil, List.length_cons, List.length_nil, List.cons_append, List.nil_append, Bool.not_true, Bool.not_false, Bool.or_true, Bool.true_or, Bool.or_false, Bool.false_or, Nat.zero_add, Nat.reduceAdd, Int.cast_ofNat_Int, beq_self_eq_true, eq_self, h]
/-- sums of amounts -/
def sumQ : Rat → List Rat → Rat
  | s, [] => s
  | s, q :: r => sumQ (s + q) r
theorem e_total3 {d1 d2 d3 : D} {p q r : Rat} {n : Nat} (h1 : Amt d1 p) (h2 : Amt d2 q) (h3 : Amt d3 r) (s1 : Sz n p) (s2 : Sz n q) (s3 : Sz n r) (hn : n < 1000) : F_total [.lst [d1, d2, d3]] = .ok (fr (p + q + r)) false ∧ F_total [.tup [d1, d2, d3]] = .ok (fr (p + q + r)) false := by
  obtain ⟨a1, b1⟩ := e_amt h1
  obtain ⟨a2, b2⟩ := e_amt h2
  obtain ⟨a3, b3⟩ := e_amt h3
  have z0 : Sz 1 (0 : Rat) := ⟨by decide, by decide⟩
  have k1 := e_added z0 s1 (by omega)
  rw [Rat.zero_add] at k1
  have k2 := e_added s1 s2 (by omega)
  have k3 := e_added (s1.add s2) s3 (by omega)
  have k0 : (D.tup [.int 0, .int 1]) = fr 0 := rfl
  refine ⟨?_, ?_⟩
  · show outF (g_total [.fz (.lst [d1, d2, d3]), .un, .un, .un]) = _
    unfold g_total
    simp only [mkF, outF, inA, sSeq, sNil, sIf, sRet, vRet, sExpr, sAsg, putV, putV0, sget, sset, eVar, eC, aNil, aCons, hold, settle, settleL, cont, contL, eTup, eLst, eB, eOp, eU, noX, eRes, mkV, tst, vTst, tNt, tAn, tOrr, eIf, eAn, eOr, eNot, eCall, sPar_a, sPar3_a, sParW, put2, put3, sAsgT, gTpl, gsCons, gsNil, gNm, sRaise, bLen, bAbs, bInt, bTup, bLst, bGcd, opIsa, opIsaLT, isa, opIx, opNeg, opAdd, opSub_a, opMul_a, opDiv_a, opMod_a, opLt_a, opLe_a, opGt_a, opGe_a, opI, opJ, ycs, opIs, opNis, isP, isNon, List.map_cons, List.map_nil, List.length_cons, List.length_nil, List.cons_append, List.nil_append, Bool.not_true, Bool.not_false, Bool.or_true, Bool.true_or, Bool.or_false, Bool.false_or, Nat.zero_add, Nat.reduceAdd, Int.cast_ofNat_Int, beq_self_eq_true, eq_self, sFor, forL, fin, unlk, iSq, srcOf, seqD, iZp, zipD, iEn, enuD, eLc, lcL, unA, backA, quietA, tYs, eNx, iNx, Sl.isOwn, Bool.and_true, Bool.true_and, Bool.and_self, decide_true, Int.reduceAdd, Nat.reduceLeDiff, Nat.reduceLT, decide_false, a1, b1, a2, b2, a3, b3, k0, k1, k2, k3]
  · show outF (g_total [.fz (.tup [d1, d2, d3]), .un, .un, .un]) = _
    unfold g_total
    simp only [mkF, outF, inA, sSeq, sNil, sIf, sRet, vRet, sExpr, sAsg, putV, putV0, sget, sset, eVar, eC, aNil, aCons, hold, settle, settleL, cont, contL, eTup, eLst, eB, eOp, eU, noX, eRes, mkV, tst, vTst, tNt, tAn, tOrr, eIf, eAn, eOr, eNot, eCall, sPar_a, sPar3_a, sParW, put2, put3, sAsgT, gTpl, gsCons, gsNil, gNm, sRaise, bLen, bAbs, bInt, bTup, bLst, bGcd, opIsa, opIsaLT, isa, opIx, opNeg, opAdd, opSub_a, opMul_a, opDiv_a, opMod_a, opLt_a, opLe_a, opGt_a, opGe_a, opI, opJ, ycs, opIs, opNis, isP, isNon, List.map_cons, List.map_nil, List.length_cons, List.length_nil, List.cons_append, List.nil_append, Bool.not_true, Bool.not_false, Bool.or_true, Bool.true_or, Bool.or_false, Bool.false_or, Nat.zero_add, Nat.reduceAdd, Int.cast_ofNat_Int, beq_self_eq_true, eq_self, sFor, forL, fin, unlk, iSq, srcOf, seqD, iZp, zipD, iEn, enuD, eLc, lcL, unA, backA, quietA, tYs, eNx, iNx, Sl.isOwn, Bool.and_true, Bool.true_and, Bool.and_self, decide_true, Int.reduceAdd, Nat.reduceLeDiff, Nat.reduceLT, decide_false, a1, b1, a2, b2, a3, b3, k0, k1, k2, k3]
/-! ### the law's own fractions -/
abbrev lgB : AS → SR := (sSeq (sIf (tst (eOp opEq (eVar 3) (eC (.int 0)))) (fun A => .bk A) sNil)
    (sSeq (sAsg 5 (eOp opMod (eB bInt (aCons (eVar 2) aNil)) (eVar 3)))
    (sSeq (sAsg 2 (eVar 3))
    (sAsg 3 (eVar 5)))))
theorem lg_stop (o t x y : Sl) (a : Nat) (c : Int) : lgB [o, t, .fz (.int a), .fz (.int 0), .fz (.int c), y] = .bk [o, t, .fz (.int a), .fz (.int 0), .fz (.int c), y] := by
  simp only [lgB, mkF, outF, inA, sSeq, sNil, sIf, sRet, vRet, sExpr, sAsg, putV, putV0, sget, sset, eVar, eC, aNil, aCons, hold, settle, settleL, cont, contL, eTup, eLst, eB, eOp, eU, noX, eRes, mkV, tst, vTst, tNt, tAn, tOrr, eIf, eAn, eOr, eNot, eCall, sPar_a, sPar3_a, sParW, put2, put3, sAsgT, gTpl, gsCons, gsNil, gNm, sRaise, bLen, bAbs, bInt, bTup, bLst, bGcd, opIsa, opIsaLT, isa, opIx, opNeg, opAdd, opSub_a, opMul_a, opDiv_a, opMod_a, opLt_a, opLe_a, opGt_a, opGe_a, opI, opJ, ycs, opIs, opNis, isP, isNon, List.map_cons, List.map_nil, List.length_cons, List.length_nil, List.cons_append, List.nil_append, Bool.not_true, Bool.not_false, Bool.or_true, Bool.true_or, Bool.or_false, Bool.false_or, Nat.zero_add, Nat.reduceAdd, Int.cast_ofNat_Int, beq_self_eq_true, eq_self, opEq, eqP_int]
theorem lg_go (o t y : Sl) (a b : Nat) (c : Int) (hb : 0 < b) (hy : y = .un ∨ ∃ d, y = .fz d) : lgB [o, t, .fz (.int a), .fz (.int b), .fz (.int c), y] = .nx [o, t, .fz (.int b), .fz (.int (a % b : Nat)), .fz (.int c), .fz (.int (a % b : Nat))] := by
  have c1 : ((b : Int) == 0) = false := by simp; omega
  have c2 : cMod (a : Int) (b : Int) = true := decide_eq_true (by omega)
  have e : ((a : Int) % (b : Int)) = ((a % b : Nat) : Int) := by simp
  rcases hy with h | ⟨d, h⟩ <;> subst h <;> simp only [lgB, mkF, outF, inA, sSeq, sNil, sIf, sRet, vRet, sExpr, sAsg, putV, putV0, sget, sset, eVar, eC, aNil, aCons, hold, settle, settleL, cont, contL, eTup, eLst, eB, eOp, eU, noX, eRes, mkV, tst, vTst, tNt, tAn, tOrr, eIf, eAn, eOr, eNot, eCall, sPar_a, sPar3_a, sParW, put2, put3, sAsgT, gTpl, gsCons, gsNil, gNm, sRaise, bLen, bAbs, bInt, bTup, bLst, bGcd, opIsa, opIsaLT, isa, opIx, opNeg, opAdd, opSub_a, opMul_a, opDiv_a, opMod_a, opLt_a, opLe_a, opGt_a, opGe_a, opI, opJ, ycs, opIs, opNis, isP, isNon, List.map_cons, List.map_nil, List.length_cons, List.length_nil, List.cons_append, List.nil_append, Bool.not_true, Bool.not_false, Bool.or_true, Bool.true_or, Bool.or_false, Bool.false_or, Nat.zero_add, Nat.reduceAdd, Int.cast_ofNat_Int, beq_self_eq_true, eq_self, opEq, eqP_int, c1, c2, e, if_true]
theorem lg_loop : ∀ (k n : Nat) (lo : Int) (a b : Nat) (o t x y : Sl), b < 2 ^ k → 2 * k + 1 ≤ n → (x = .un ∨ ∃ d, x = .fz d) → (y = .un ∨ ∃ d, y = .fz d) →
    ∃ x' y', forL (gNm 4) lgB (rangeD lo 1 n) [o, t, .fz (.int a), .fz (.int b), x, y] = .nx [o, t, .fz (.int (Nat.gcd a b : Nat)), .fz (.int 0), x', y']
  | k, 0, lo, a, b, o, t, x, y, h, hn, hx, hy => by omega
  | 0, n + 1, lo, a, b, o, t, x, y, h, hn, hx, hy => by
    have hb : b = 0 := by simpa using h
    subst hb
    refine ⟨.fz (.int lo), y, ?_⟩
    have g : gNm 4 (.int lo) [o, t, .fz (.int a), .fz (.int 0), x, y] = some [o, t, .fz (.int a), .fz (.int 0), .fz (.int lo), y] := by
      rcases hx with h | ⟨d, h⟩ <;> subst h <;> rfl
    rw [rangeD_succ, Nat.gcd_zero_right]
    exact forL_bk g (lg_stop o t x y a lo)
  | k + 1, n + 1, lo, a, b, o, t, x, y, h, hn, hx, hy => by
    have g : ∀ b : Nat, gNm 4 (.int lo) [o, t, .fz (.int a), .fz (.int b), x, y] = some [o, t, .fz (.int a), .fz (.int b), .fz (.int lo), y] := fun b => by
      rcases hx with h | ⟨d, h⟩ <;> subst h <;> rfl
    rw [rangeD_succ]
    rcases Nat.eq_zero_or_pos b with hb | hb
    · subst hb
      refine ⟨.fz (.int lo), y, ?_⟩
      rw [Nat.gcd_zero_right]
      exact forL_bk (g 0) (lg_stop o t x y a lo)
    · rw [forL_nx (g b) (lg_go o t y a b lo hb hy)]
      cases n with
      | zero => omega
      | succ n =>
        rw [gcd_step a b, rangeD_succ]
        rcases Nat.eq_zero_or_pos (a % b) with hr | hr
        · refine ⟨.fz (.int (lo + 1)), .fz (.int (a % b : Nat)), ?_⟩
          rw [hr, Nat.gcd_zero_right]
          exact forL_bk (A1 := [o, t, .fz (.int b), .fz (.int 0), .fz (.int (lo + 1)), .fz (.int 0)]) rfl (lg_stop o t (.fz (.int lo)) _ b (lo + 1))
        · have hh := half_step h hr
          obtain ⟨x', y', ih⟩ := lg_loop k n (lo + 1 + 1) (a % b) (b % (a % b)) o t (.fz (.int (lo + 1))) (.fz (.int (b % (a % b) : Nat))) hh (by omega) (.inr ⟨_, rfl⟩) (.inr ⟨_, rfl⟩)
          refine ⟨x', y', ?_⟩
          rw [gcd_step b (a % b), ← ih]
          exact forL_nx rfl (lg_go o t _ b (a % b) (lo + 1) hr (.inr ⟨_, rfl⟩))
theorem c2_ok {mx : Nat} (h : mx < 9000) : cMul 2 (mx : Int) = true := cMul_ok (n := 2) (m := 14) (by decide) (by rw [Int.natAbs_natCast]; exact Nat.lt_trans h (by decide)) (by decide)
theorem inB_mx {mx : Nat} (h : mx < 9000) : inB (2 * (mx : Int) + 10) = true := inB_of (by omega) (by omega)
theorem e_lgcd {a b : Int} {n : Nat} (ha : a.natAbs < 2 ^ n) (hb : b.natAbs < 2 ^ n) (hn : n < 9000) : F__law_gcd [.int a, .int b] = .ok (.int (Nat.gcd a.natAbs b.natAbs : Nat)) false := by
  have ea : (if a < 0 then -a else a) = (a.natAbs : Int) := by split <;> omega
  have eb : (if b < 0 then -b else b) = (b.natAbs : Int) := by split <;> omega
  have ka : PySem.Builtin.Int.intBits (a.natAbs : Int) ≤ n := bits_le (by simpa using ha)
  have kb : PySem.Builtin.Int.intBits (b.natAbs : Int) ≤ n := bits_le (by simpa using hb)
  have kk := lt_bits (b.natAbs : Int)
  rw [Int.natAbs_natCast] at kk
  obtain ⟨mx, em, h1, h2⟩ : ∃ mx : Nat, (if ((PySem.Builtin.Int.intBits (b.natAbs : Int) : Nat) : Int) > ((PySem.Builtin.Int.intBits (a.natAbs : Int) : Nat) : Int) then ((PySem.Builtin.Int.intBits (b.natAbs : Int) : Nat) : Int) else ((PySem.Builtin.Int.intBits (a.natAbs : Int) : Nat) : Int)) = (mx : Int) ∧ PySem.Builtin.Int.intBits (b.natAbs : Int) ≤ mx ∧ mx ≤ n := by
    by_cases c : ((PySem.Builtin.Int.intBits (b.natAbs : Int) : Nat) : Int) > ((PySem.Builtin.Int.intBits (a.natAbs : Int) : Nat) : Int)
    · exact ⟨_, by rw [if_pos c], Nat.le_refl _, kb⟩
    · exact ⟨_, by rw [if_neg c], by omega, ka⟩
  have c1 : cMul 2 (mx : Int) = true := c2_ok (by omega)
  have c2 : inB (2 * (mx : Int) + 10) = true := inB_mx (by omega)
  obtain ⟨x', y', lp⟩ := lg_loop _ (2 * (mx : Int) + 10).toNat 0 a.natAbs b.natAbs (.fz (.int a)) (.fz (.int b)) .un .un kk (by omega) (.inl rfl) (.inl rfl)
  show outF (g__law_gcd [.fz (.int a), .fz (.int b), .un, .un, .un, .un]) = _
  unfold g__law_gcd
  generalize hA : ([.fz (.int a), .fz (.int b), .fz (.int a.natAbs), .fz (.int b.natAbs), .un, .un] : AS) = A at lp
  have hI : iRg rg1 (aCons (eOp opAdd (eOp opMul (eC (.int 2)) (eB bMax (aCons (eU opBits (eVar 2)) (aCons (eU opBits (eVar 3)) aNil)))) (eC (.int 10))) aNil) A = .ok (rangeD 0 1 (2 * (mx : Int) + 10).toNat) [] A := by
    subst hA
    have hB : bMax [.int ((PySem.Builtin.Int.intBits (a.natAbs : Int) : Nat) : Int), .int ((PySem.Builtin.Int.intBits (b.natAbs : Int) : Nat) : Int)] = .ok (.int (mx : Int)) false := congrArg (fun z => FR.ok (D.int z) false) em
    have hM : opMul (.int 2) (.int (mx : Int)) = .ok (.int (2 * (mx : Int))) false := opMul_ok c1
    have hR : rg1 [.fz (.int (2 * (mx : Int) + 10))] = some (rangeD 0 1 (2 * (mx : Int) + 10).toNat) := rg1_ok c2
    simp only [mkF, outF, inA, sSeq, sNil, sIf, sRet, vRet, sExpr, sAsg, putV, putV0, sget, sset, eVar, eC, aNil, aCons, hold, settle, settleL, cont, contL, eTup, eLst, eB, eOp, eU, noX, eRes, mkV, tst, vTst, tNt, tAn, tOrr, eIf, eAn, eOr, eNot, eCall, sPar_a, sPar3_a, sParW, put2, put3, sAsgT, gTpl, gsCons, gsNil, gNm, sRaise, bLen, bAbs, bInt, bTup, bLst, bGcd, opIsa, opIsaLT, isa, opIx, opNeg, opAdd, opSub_a, opDiv_a, opMod_a, opLt_a, opLe_a, opGt_a, opGe_a, opI, opJ, ycs, opIs, opNis, isP, isNon, List.map_cons, List.map_nil, List.length_cons, List.length_nil, List.cons_append, List.nil_append, Bool.not_true, Bool.not_false, Bool.or_true, Bool.true_or, Bool.or_false, Bool.false_or, Nat.zero_add, Nat.reduceAdd, Int.cast_ofNat_Int, beq_self_eq_true, eq_self, opBits, hB, hM, hR, iRg]
  rw [sSeq_nx (A1 := [.fz (.int a), .fz (.int b), .fz (.int a.natAbs), .un, .un, .un]) (by simp only [mkF, outF, inA, sSeq, sNil, sIf, sRet, vRet, sExpr, sAsg, putV, putV0, sget, sset, eVar, eC, aNil, aCons, hold, settle, settleL, cont, contL, eTup, eLst, eB, eOp, eU, noX, eRes, mkV, tst, vTst, tNt, tAn, tOrr, eIf, eAn, eOr, eNot, eCall, sPar_a, sPar3_a, sParW, put2, put3, sAsgT, gTpl, gsCons, gsNil, gNm, sRaise, bLen, bAbs, bInt, bTup, bLst, bGcd, opIsa, opIsaLT, isa, opIx, opNeg, opAdd, opSub_a, opMul_a, opDiv_a, opMod_a, opLt_a, opLe_a, opGt_a, opGe_a, opI, opJ, ycs, opIs, opNis, isP, isNon, List.map_cons, List.map_nil, List.length_cons, List.length_nil, List.cons_append, List.nil_append, Bool.not_true, Bool.not_false, Bool.or_true, Bool.true_or, Bool.or_false, Bool.false_or, Nat.zero_add, Nat.reduceAdd, Int.cast_ofNat_Int, beq_self_eq_true, eq_self, ea])]
  rw [sSeq_nx (A1 := A) (by subst hA; simp only [mkF, outF, inA, sSeq, sNil, sIf, sRet, vRet, sExpr, sAsg, putV, putV0, sget, sset, eVar, eC, aNil, aCons, hold, settle, settleL, cont, contL, eTup, eLst, eB, eOp, eU, noX, eRes, mkV, tst, vTst, tNt, tAn, tOrr, eIf, eAn, eOr, eNot, eCall, sPar_a, sPar3_a, sParW, put2, put3, sAsgT, gTpl, gsCons, gsNil, gNm, sRaise, bLen, bAbs, bInt, bTup, bLst, bGcd, opIsa, opIsaLT, isa, opIx, opNeg, opAdd, opSub_a, opMul_a, opDiv_a, opMod_a, opLt_a, opLe_a, opGt_a, opGe_a, opI, opJ, ycs, opIs, opNis, isP, isNon, List.map_cons, List.map_nil, List.length_cons, List.length_nil, List.cons_append, List.nil_append, Bool.not_true, Bool.not_false, Bool.or_true, Bool.true_or, Bool.or_false, Bool.false_or, Nat.zero_add, Nat.reduceAdd, Int.cast_ofNat_Int, beq_self_eq_true, eq_self, eb])]
  have hF : sFor (iRg rg1 (aCons (eOp opAdd (eOp opMul (eC (.int 2)) (eB bMax (aCons (eU opBits (eVar 2)) (aCons (eU opBits (eVar 3)) aNil)))) (eC (.int 10))) aNil)) (gNm 4) lgB A = .nx [.fz (.int a), .fz (.int b), .fz (.int (Nat.gcd a.natAbs b.natAbs : Nat)), .fz (.int 0), x', y'] := by
    unfold sFor
    rw [hI]
    dsimp only
    rw [lp]
    rfl
  rw [sSeq_nx hF]
  rfl
theorem e_lfrac {t : Int} {b n : Nat} (h : b ≠ 0) (ht : t.natAbs < 2 ^ n) (hb : b < 2 ^ n) (hn : n < 8000) : F__law_frac [.int t, .int b] = .ok (fr (mkRat t b)) false := by
  have key := e_lgcd (a := t) (b := (b : Int)) ht (by simpa using hb) (by omega)
  have hg : 0 < Nat.gcd t.natAbs (b : Int).natAbs := Nat.gcd_pos_of_pos_right _ (by omega)
  have hle : Nat.gcd t.natAbs (b : Int).natAbs ≤ b := Nat.gcd_le_right _ (by omega)
  have c1 : ∀ i, cDiv i ((Nat.gcd t.natAbs (b : Int).natAbs : Nat) : Int) = true := fun i => cDiv_ok (n := n) (by omega) (by omega) (by omega)
  have c2 : decide ((b : Int) < 0) = false := decide_eq_false (by omega)
  rw [← fr_mk h]
  show outF (g__law_frac [.fz (.int t), .fz (.int b), .un]) = _
  unfold g__law_frac
  simp only [mkF, outF, inA, sSeq, sNil, sIf, sRet, vRet, sExpr, sAsg, putV, putV0, sget, sset, eVar, eC, aNil, aCons, hold, settle, settleL, cont, contL, eTup, eLst, eB, eOp, eU, noX, eRes, mkV, tst, vTst, tNt, tAn, tOrr, eIf, eAn, eOr, eNot, eCall, sPar_a, sPar3_a, sParW, put2, put3, sAsgT, gTpl, gsCons, gsNil, gNm, sRaise, bLen, bAbs, bInt, bTup, bLst, bGcd, opIsa, opIsaLT, isa, opIx, opNeg, opAdd, opSub_a, opMul_a, opDiv_a, opMod_a, opLt_a, opLe_a, opGt_a, opGe_a, opI, opJ, ycs, opIs, opNis, isP, isNon, List.map_cons, List.map_nil, List.length_cons, List.length_nil, List.cons_append, List.nil_append, Bool.not_true, Bool.not_false, Bool.or_true, Bool.true_or, Bool.or_false, Bool.false_or, Nat.zero_add, Nat.reduceAdd, Int.cast_ofNat_Int, beq_self_eq_true, eq_self, key, c2, c1, if_true]
  rfl
theorem e_lplus {p q : Rat} {n m : Nat} (hp : Sz n p) (hq : Sz m q) (h : n + m < 7000) : F__law_plus [fr p, fr q] = .ok (fr (p + q)) false := by
  have c1 : cMul p.num q.den = true := cMul_ok hp.num (by simpa using hq.den) (by omega)
  have c2 : cMul q.num p.den = true := cMul_ok hq.num (by simpa using hp.den) (by omega)
  have c3 : cMul (p.den : Int) (q.den : Int) = true := cMul_ok (by simpa using hp.den) (by simpa using hq.den) (by omega)
  have key := e_lfrac (t := p.num * q.den + q.num * p.den) (b := p.den * q.den) mul_den_ne (cross_lt hp hq).1 (cross_lt hp hq).2.2.1 (by omega)
  rw [Int.natCast_mul] at key
  rw [Rat.add_def']
  show outF (g__law_plus [.fz (.tup [.int p.num, .int p.den]), .fz (.tup [.int q.num, .int q.den])]) = _
  unfold g__law_plus
  simp only [mkF, outF, inA, sSeq, sNil, sIf, sRet, vRet, sExpr, sAsg, putV, putV0, sget, sset, eVar, eC, aNil, aCons, hold, settle, settleL, cont, contL, eTup, eLst, eB, eOp, eU, noX, eRes, mkV, tst, vTst, tNt, tAn, tOrr, eIf, eAn, eOr, eNot, eCall, sPar_a, sPar3_a, sParW, put2, put3, sAsgT, gTpl, gsCons, gsNil, gNm, sRaise, bLen, bAbs, bInt, bTup, bLst, bGcd, opIsa, opIsaLT, isa, opIx, opNeg, opAdd, opSub_a, opMul_a, opDiv_a, opMod_a, opLt_a, opLe_a, opGt_a, opGe_a, opI, opJ, ycs, opIs, opNis, isP, isNon, List.map_cons, List.map_nil, List.length_cons, List.length_nil, List.cons_append, List.nil_append, Bool.not_true, Bool.not_false, Bool.or_true, Bool.true_or, Bool.or_false, Bool.false_or, Nat.zero_add, Nat.reduceAdd, Int.cast_ofNat_Int, beq_self_eq_true, eq_self, at2_0, at2_1, at3_0, at3_1, at3_2, c1, c2, c3, if_true, key]
theorem e_lminus {p q : Rat} {n m : Nat} (hp : Sz n p) (hq : Sz m q) (h : n + m < 7000) : F__law_minus [fr p, fr q] = .ok (fr (p - q)) false := by
  have c1 : cMul p.num q.den = true := cMul_ok hp.num (by simpa using hq.den) (by omega)
  have c2 : cMul q.num p.den = true := cMul_ok hq.num (by simpa using hp.den) (by omega)
  have c3 : cMul (p.den : Int) (q.den : Int) = true := cMul_ok (by simpa using hp.den) (by simpa using hq.den) (by omega)
  have key := e_lfrac (t := p.num * q.den - q.num * p.den) (b := p.den * q.den) mul_den_ne (cross_lt hp hq).2.1 (cross_lt hp hq).2.2.1 (by omega)
  rw [Int.natCast_mul] at key
  rw [Rat.sub_def']
  show outF (g__law_minus [.fz (.tup [.int p.num, .int p.den]), .fz (.tup [.int q.num, .int q.den])]) = _
  unfold g__law_minus
  simp only [mkF, outF, inA, sSeq, sNil, sIf, sRet, vRet, sExpr, sAsg, putV, putV0, sget, sset, eVar, eC, aNil, aCons, hold, settle, settleL, cont, contL, eTup, eLst, eB, eOp, eU, noX, eRes, mkV, tst, vTst, tNt, tAn, tOrr, eIf, eAn, eOr, eNot, eCall, sPar_a, sPar3_a, sParW, put2, put3, sAsgT, gTpl, gsCons, gsNil, gNm, sRaise, bLen, bAbs, bInt, bTup, bLst, bGcd, opIsa, opIsaLT, isa, opIx, opNeg, opAdd, opSub_a, opMul_a, opDiv_a, opMod_a, opLt_a, opLe_a, opGt_a, opGe_a, opI, opJ, ycs, opIs, opNis, isP, isNon, List.map_cons, List.map_nil, List.length_cons, List.length_nil, List.cons_append, List.nil_append, Bool.not_true, Bool.not_false, Bool.or_true, Bool.true_or, Bool.or_false, Bool.false_or, Nat.zero_add, Nat.reduceAdd, Int.cast_ofNat_Int, beq_self_eq_true, eq_self, at2_0, at2_1, at3_0, at3_1, at3_2, c1, c2, c3, if_true, key]
theorem e_ltimes {p q : Rat} {n m : Nat} (hp : Sz n p) (hq : Sz m q) (h : n + m < 7000) : F__law_times [fr p, fr q] = .ok (fr (p * q)) false := by
  have c1 : cMul p.num q.num = true := cMul_ok hp.num hq.num (by omega)
  have c3 : cMul (p.den : Int) (q.den : Int) = true := cMul_ok (by simpa using hp.den) (by simpa using hq.den) (by omega)
  have key := e_lfrac (t := p.num * q.num) (b := p.den * q.den) mul_den_ne (cross_lt hp hq).2.2.2 (cross_lt hp hq).2.2.1 (by omega)
  rw [Int.natCast_mul] at key
  rw [Rat.mul_def']
  show outF (g__law_times [.fz (.tup [.int p.num, .int p.den]), .fz (.tup [.int q.num, .int q.den])]) = _
  unfold g__law_times
  simp only [mkF, outF, inA, sSeq, sNil, sIf, sRet, vRet, sExpr, sAsg, putV, putV0, sget, sset, eVar, eC, aNil, aCons, hold, settle, settleL, cont, contL, eTup, eLst, eB, eOp, eU, noX, eRes, mkV, tst, vTst, tNt, tAn, tOrr, eIf, eAn, eOr, eNot, eCall, sPar_a, sPar3_a, sParW, put2, put3, sAsgT, gTpl, gsCons, gsNil, gNm, sRaise, bLen, bAbs, bInt, bTup, bLst, bGcd, opIsa, opIsaLT, isa, opIx, opNeg, opAdd, opSub_a, opMul_a, opDiv_a, opMod_a, opLt_a, opLe_a, opGt_a, opGe_a, opI, opJ, ycs, opIs, opNis, isP, isNon, List.map_cons, List.map_nil, List.length_cons, List.length_nil, List.cons_append, List.nil_append, Bool.not_true, Bool.not_false, Bool.or_true, Bool.true_or, Bool.or_false, Bool.false_or, Nat.zero_add, Nat.reduceAdd, Int.cast_ofNat_Int, beq_self_eq_true, eq_self, at2_0, at2_1, at3_0, at3_1, at3_2, c1, c3, if_true, key]
theorem e_lless {p q : Rat} {n m : Nat} (hp : Sz n p) (hq : Sz m q) (h : n + m < 7000) : F__law_less [fr p, fr q] = .ok (.bl (decide (p < q))) false := by
  have c1 : cMul p.num q.den = true := cMul_ok hp.num (by simpa using hq.den) (by omega)
  have c2 : cMul q.num p.den = true := cMul_ok hq.num (by simpa using hp.den) (by omega)
  show outF (g__law_less [.fz (.tup [.int p.num, .int p.den]), .fz (.tup [.int q.num, .int q.den])]) = _
  unfold g__law_less
  simp only [mkF, outF, inA, sSeq, sNil, sIf, sRet, vRet, sExpr, sAsg, putV, putV0, sget, sset, eVar, eC, aNil, aCons, hold, settle, settleL, cont, contL, eTup, eLst, eB, eOp, eU, noX, eRes, mkV, tst, vTst, tNt, tAn, tOrr, eIf, eAn, eOr, eNot, eCall, sPar_a, sPar3_a, sParW, put2, put3, sAsgT, gTpl, gsCons, gsNil, gNm, sRaise, bLen, bAbs, bInt, bTup, bLst, bGcd, opIsa, opIsaLT, isa, opIx, opNeg, opAdd, opSub_a, opMul_a, opDiv_a, opMod_a, opLt_a, opLe_a, opGt_a, opGe_a, opI, opJ, ycs, opIs, opNis, isP, isNon, List.map_cons, List.map_nil, List.length_cons, List.length_nil, List.cons_append, List.nil_append, Bool.not_true, Bool.not_false, Bool.or_true, Bool.true_or, Bool.or_false, Bool.false_or, Nat.zero_add, Nat.reduceAdd, Int.cast_ofNat_Int, beq_self_eq_true, eq_self, at2_0, at2_1, at3_0, at3_1, at3_2, c1, c2, if_true]
  have e : decide (p.num * ↑q.den < q.num * ↑p.den) = decide (p < q) := decide_eq_decide.mpr (Rat.lt_iff p q).symm
  rw [e]
/-! ### the draws -/
abbrev dB1 : AS → SR := (sIf (tst (eOp opGt (eVar 4) (eC (.int 0)))) (sSeq (sApp 1 (eOp opMod (eB bInt (aCons (eVar 4) aNil)) (eC (.int 100))))
    (sAsg 4 (eOp opDiv (eVar 4) (eC (.int 100))))) sNil)
theorem pow10_18 : opPow (.int 10) (.int 18) = .ok (.int 1000000000000000000) false := by rfl
theorem div_lit {i : Int} {j : Nat} (h : 0 < j) (h2 : j < 2 ^ 40) : opDiv (.int i) (.int (j : Int)) = .ok (.int (i / j)) false := opDiv_ok (cDiv_ok (n := 40) (by omega) (by simpa using h2) (by omega))
theorem d_in (s a c x6 x7 : Sl) : ∀ (n : Nat) (lo : Int) (l : List Int) (z : Int) (x5 : Sl), l.length + n < 100000 → frS x5 = true →
    ∃ (l' : List Int) (z' : Int) (x5' : Sl), forL (gNm 5) dB1 (rangeD lo 1 n) [s, .ow (.lst (l.map D.int)), a, c, .fz (.int z), x5, x6, x7] = .nx [s, .ow (.lst (l'.map D.int)), a, c, .fz (.int z'), x5', x6, x7] ∧ l'.length ≤ l.length + n ∧ frS x5' = true
  | 0, lo, l, z, x5, h, hx => ⟨l, z, x5, rfl, by omega, hx⟩
  | n + 1, lo, l, z, x5, h, hx => by
    have g : gNm 5 (.int lo) [s, .ow (.lst (l.map D.int)), a, c, .fz (.int z), x5, x6, x7] = some [s, .ow (.lst (l.map D.int)), a, c, .fz (.int z), .fz (.int lo), x6, x7] := putV_fz hx
    rw [rangeD_succ]
    by_cases hz : 0 < z
    · have hb : dB1 [s, .ow (.lst (l.map D.int)), a, c, .fz (.int z), .fz (.int lo), x6, x7] = .nx [s, .ow (.lst ((l ++ [z % 100]).map D.int)), a, c, .fz (.int (z / 100)), .fz (.int lo), x6, x7] := by
        have c1 : decide (0 < z) = true := decide_eq_true hz
        have k1 : opMod (.int z) (.int 100) = .ok (.int (z % 100)) false := opMod_ok (by decide)
        have k2 : opDiv (.int z) (.int 100) = .ok (.int (z / 100)) false := div_lit (j := 100) (by decide) (by decide)
        have k3 := appTo_ok (i := 1) (A := [s, .ow (.lst (l.map D.int)), a, c, .fz (.int z), .fz (.int lo), x6, x7]) (z := z % 100) rfl rfl (by omega)
        simp only [dB1, mkF, outF, inA, sSeq, sNil, sIf, sRet, vRet, sExpr, sAsg, sget, sset, eVar, eC, aNil, aCons, hold, settle, settleL, cont, contL, eTup, eLst, eB, eOp, eU, noX, eRes, mkV, tst, vTst, tNt, tAn, tOrr, eIf, eAn, eOr, eNot, eCall, sPar_a, sPar3_a, sParW, put2, put3, sAsgT, gTpl, gsCons, gsNil, gNm, sRaise, bLen, bAbs, bInt, bTup, bLst, bGcd, opIsa, opIsaLT, isa, opIx, opNeg, opAdd, opSub_a, opLt_a, opLe_a, opGt_a, opGe_a, opI, opJ, ycs, opIs, opNis, isP, isNon, List.map_cons, List.map_nil, List.length_cons, List.length_nil, List.cons_append, List.nil_append, Bool.not_true, Bool.not_false, Bool.or_true, Bool.true_or, Bool.or_false, Bool.false_or, Nat.zero_add, Nat.reduceAdd, Int.cast_ofNat_Int, beq_self_eq_true, eq_self, c1, k1, sApp, k3, k2, putV_F, putF_fz]
      obtain ⟨l', z', x5', e, h1, h2⟩ := d_in s a c x6 x7 n (lo + 1) (l ++ [z % 100]) (z / 100) (.fz (.int lo)) (by simp; omega) rfl
      exact ⟨l', z', x5', by rw [forL_nx g hb, e], by simp at h1; omega, h2⟩
    · have hb : dB1 [s, .ow (.lst (l.map D.int)), a, c, .fz (.int z), .fz (.int lo), x6, x7] = .nx [s, .ow (.lst (l.map D.int)), a, c, .fz (.int z), .fz (.int lo), x6, x7] := by
        have c1 : decide (0 < z) = false := decide_eq_false hz
        simp only [dB1, mkF, outF, inA, sSeq, sNil, sIf, sRet, vRet, sExpr, sAsg, sget, sset, eVar, eC, aNil, aCons, hold, settle, settleL, cont, contL, eTup, eLst, eB, eOp, eU, noX, eRes, mkV, tst, vTst, tNt, tAn, tOrr, eIf, eAn, eOr, eNot, eCall, sPar_a, sPar3_a, sParW, put2, put3, sAsgT, gTpl, gsCons, gsNil, gNm, sRaise, bLen, bAbs, bInt, bTup, bLst, bGcd, opIsa, opIsaLT, isa, opIx, opNeg, opAdd, opSub_a, opLt_a, opLe_a, opGt_a, opGe_a, opI, opJ, ycs, opIs, opNis, isP, isNon, List.map_cons, List.map_nil, List.length_cons, List.length_nil, List.cons_append, List.nil_append, Bool.not_true, Bool.not_false, Bool.or_true, Bool.true_or, Bool.or_false, Bool.false_or, Nat.zero_add, Nat.reduceAdd, Int.cast_ofNat_Int, beq_self_eq_true, eq_self, c1]
      obtain ⟨l', z', x5', e, h1, h2⟩ := d_in s a c x6 x7 n (lo + 1) l z (.fz (.int lo)) (by omega) rfl
      exact ⟨l', z', x5', by rw [forL_nx g hb, e], by omega, h2⟩
abbrev dB2 : AS → SR := (sSeq (sFor (iRg rg1 (aCons (eC (.int 30)) aNil)) (gNm 5) dB1)
    (sIf (tst (eOp opLt (eVar 3) (eC (.int 0)))) (sApp 1 (eC (.int 1))) sNil))
abbrev dB3 : AS → SR := (sSeq (sIf (tst (eOp opLt (eVar 3) (eC (.int 0)))) (sAsg 4 (eOp opAdd (eVar 4) (eC (.int 500009)))) sNil)
    (sSeq (sAsg 6 (eOp opMod (eB bInt (aCons (eOp opAdd (eOp opAdd (eOp opMul (eVar 4) (eC (.int 48271))) (eOp opMul (eVar 2) (eC (.int 69621)))) (eC (.int 12345))) aNil)) (eC (.int 2147483647))))
    (sSeq (sAsg 7 (eOp opMod (eB bInt (aCons (eOp opAdd (eOp opAdd (eOp opMul (eVar 6) (eC (.int 16807))) (eOp opMul (eVar 2) (eC (.int 40503)))) (eC (.int 977))) aNil)) (eC (.int 2147483629))))
    (sSeq (sApp 1 (eOp opMod (eB bInt (aCons (eOp opDiv (eVar 6) (eC (.int 64))) aNil)) (eC (.int 100))))
    (sApp 1 (eOp opMod (eB bInt (aCons (eOp opDiv (eVar 7) (eC (.int 128))) aNil)) (eC (.int 100))))))))
abbrev dB : AS → SR := (sSeq (sAsg 3 (eB bInt (aCons (eOp opIx (eVar 0) (eVar 2)) aNil)))
    (sSeq (sAsg 4 (eB bAbs (aCons (eVar 3) aNil)))
    (sIf (tst (eOp opGe (eVar 4) (eOp opPow (eC (.int 10)) (eC (.int 18))))) dB2 dB3)))
theorem d_big (s a : Sl) (l : List Int) (c z : Int) (x5 x6 x7 : Sl) (h : l.length + 40 < 100000) (h5 : frS x5 = true) : ∃ (l' : List Int) (z' : Int) (x5' : Sl), dB2 [s, .ow (.lst (l.map D.int)), a, .fz (.int c), .fz (.int z), x5, x6, x7] = .nx [s, .ow (.lst (l'.map D.int)), a, .fz (.int c), .fz (.int z'), x5', x6, x7] ∧ l'.length ≤ l.length + 40 ∧ frS x5' = true := by
  obtain ⟨l', z', x5', e, h1, h2⟩ := d_in s a (.fz (.int c)) x6 x7 30 0 l z x5 (by omega) h5
  have hI : iRg rg1 (aCons (eC (.int 30)) aNil) [s, .ow (.lst (l.map D.int)), a, .fz (.int c), .fz (.int z), x5, x6, x7] = .ok (rangeD 0 1 30) [] [s, .ow (.lst (l.map D.int)), a, .fz (.int c), .fz (.int z), x5, x6, x7] := by rfl
  have hF : sFor (iRg rg1 (aCons (eC (.int 30)) aNil)) (gNm 5) dB1 [s, .ow (.lst (l.map D.int)), a, .fz (.int c), .fz (.int z), x5, x6, x7] = .nx [s, .ow (.lst (l'.map D.int)), a, .fz (.int c), .fz (.int z'), x5', x6, x7] := by
    unfold sFor
    rw [hI]
    dsimp only
    rw [e]
    rfl
  by_cases hc : c < 0
  · refine ⟨l' ++ [1], z', x5', ?_, by simp; omega, h2⟩
    have c1 : decide (c < 0) = true := decide_eq_true hc
    have k3 := appTo_ok (i := 1) (A := [s, .ow (.lst (l'.map D.int)), a, .fz (.int c), .fz (.int z'), x5', x6, x7]) (d := .int 1) (z := 1) rfl rfl (by omega)
    show sSeq _ _ _ = _
    rw [sSeq_nx hF]
    simp only [mkF, outF, inA, sSeq, sNil, sIf, sRet, vRet, sExpr, sAsg, sget, sset, eVar, eC, aNil, aCons, hold, settle, settleL, cont, contL, eTup, eLst, eB, eOp, eU, noX, eRes, mkV, tst, vTst, tNt, tAn, tOrr, eIf, eAn, eOr, eNot, eCall, sPar_a, sPar3_a, sParW, put2, put3, sAsgT, gTpl, gsCons, gsNil, gNm, sRaise, bLen, bAbs, bInt, bTup, bLst, bGcd, opIsa, opIsaLT, isa, opIx, opNeg, opAdd, opSub_a, opLt_a, opLe_a, opGt_a, opGe_a, opI, opJ, ycs, opIs, opNis, isP, isNon, List.map_cons, List.map_nil, List.length_cons, List.length_nil, List.cons_append, List.nil_append, Bool.not_true, Bool.not_false, Bool.or_true, Bool.true_or, Bool.or_false, Bool.false_or, Nat.zero_add, Nat.reduceAdd, Int.cast_ofNat_Int, beq_self_eq_true, eq_self, c1, sApp, k3]
  · refine ⟨l', z', x5', ?_, by omega, h2⟩
    have c1 : decide (c < 0) = false := decide_eq_false hc
    show sSeq _ _ _ = _
    rw [sSeq_nx hF]
    simp only [mkF, outF, inA, sSeq, sNil, sIf, sRet, vRet, sExpr, sAsg, sget, sset, eVar, eC, aNil, aCons, hold, settle, settleL, cont, contL, eTup, eLst, eB, eOp, eU, noX, eRes, mkV, tst, vTst, tNt, tAn, tOrr, eIf, eAn, eOr, eNot, eCall, sPar_a, sPar3_a, sParW, put2, put3, sAsgT, gTpl, gsCons, gsNil, gNm, sRaise, bLen, bAbs, bInt, bTup, bLst, bGcd, opIsa, opIsaLT, isa, opIx, opNeg, opAdd, opSub_a, opLt_a, opLe_a, opGt_a, opGe_a, opI, opJ, ycs, opIs, opNis, isP, isNon, List.map_cons, List.map_nil, List.length_cons, List.length_nil, List.cons_append, List.nil_append, Bool.not_true, Bool.not_false, Bool.or_true, Bool.true_or, Bool.or_false, Bool.false_or, Nat.zero_add, Nat.reduceAdd, Int.cast_ofNat_Int, beq_self_eq_true, eq_self, c1]
theorem d_small (s : Sl) (l : List Int) (at_ c z : Int) (x5 x6 x7 : Sl) (h : l.length + 40 < 100000) (h6 : frS x6 = true) (h7 : frS x7 = true) (hz : 0 ≤ z ∧ z < 1000000000000000000) (ha : 0 ≤ at_ ∧ at_ < 100000) :
    ∃ (l' : List Int) (z' : Int) (x6' x7' : Sl), dB3 [s, .ow (.lst (l.map D.int)), .fz (.int at_), .fz (.int c), .fz (.int z), x5, x6, x7] = .nx [s, .ow (.lst (l'.map D.int)), .fz (.int at_), .fz (.int c), .fz (.int z'), x5, x6', x7'] ∧ l'.length ≤ l.length + 40 ∧ frS x6' = true ∧ frS x7' = true := by
  obtain ⟨z1, hz1, e1⟩ : ∃ z1 : Int, (0 ≤ z1 ∧ z1 < 2000000000000000000) ∧ (sIf (tst (eOp opLt (eVar 3) (eC (.int 0)))) (sAsg 4 (eOp opAdd (eVar 4) (eC (.int 500009)))) sNil) [s, .ow (.lst (l.map D.int)), .fz (.int at_), .fz (.int c), .fz (.int z), x5, x6, x7] = .nx [s, .ow (.lst (l.map D.int)), .fz (.int at_), .fz (.int c), .fz (.int z1), x5, x6, x7] := by
    by_cases hc : c < 0
    · have c1 : decide (c < 0) = true := decide_eq_true hc
      exact ⟨z + 500009, by omega, by simp only [mkF, outF, inA, sSeq, sNil, sIf, sRet, vRet, sExpr, sAsg, sget, sset, eVar, eC, aNil, aCons, hold, settle, settleL, cont, contL, eTup, eLst, eB, eOp, eU, noX, eRes, mkV, tst, vTst, tNt, tAn, tOrr, eIf, eAn, eOr, eNot, eCall, sPar_a, sPar3_a, sParW, put2, put3, sAsgT, gTpl, gsCons, gsNil, gNm, sRaise, bLen, bAbs, bInt, bTup, bLst, bGcd, opIsa, opIsaLT, isa, opIx, opNeg, opAdd, opSub_a, opLt_a, opLe_a, opGt_a, opGe_a, opI, opJ, ycs, opIs, opNis, isP, isNon, List.map_cons, List.map_nil, List.length_cons, List.length_nil, List.cons_append, List.nil_append, Bool.not_true, Bool.not_false, Bool.or_true, Bool.true_or, Bool.or_false, Bool.false_or, Nat.zero_add, Nat.reduceAdd, Int.cast_ofNat_Int, beq_self_eq_true, eq_self, c1, putV_F, putF_fz]⟩
    · have c1 : decide (c < 0) = false := decide_eq_false hc
      exact ⟨z, by omega, by simp only [mkF, outF, inA, sSeq, sNil, sIf, sRet, vRet, sExpr, sAsg, sget, sset, eVar, eC, aNil, aCons, hold, settle, settleL, cont, contL, eTup, eLst, eB, eOp, eU, noX, eRes, mkV, tst, vTst, tNt, tAn, tOrr, eIf, eAn, eOr, eNot, eCall, sPar_a, sPar3_a, sParW, put2, put3, sAsgT, gTpl, gsCons, gsNil, gNm, sRaise, bLen, bAbs, bInt, bTup, bLst, bGcd, opIsa, opIsaLT, isa, opIx, opNeg, opAdd, opSub_a, opLt_a, opLe_a, opGt_a, opGe_a, opI, opJ, ycs, opIs, opNis, isP, isNon, List.map_cons, List.map_nil, List.length_cons, List.length_nil, List.cons_append, List.nil_append, Bool.not_true, Bool.not_false, Bool.or_true, Bool.true_or, Bool.or_false, Bool.false_or, Nat.zero_add, Nat.reduceAdd, Int.cast_ofNat_Int, beq_self_eq_true, eq_self, c1]⟩
  have p64 : (2 : Nat) ^ 64 = 18446744073709551616 := by decide
  have m1 : opMul (.int z1) (.int 48271) = .ok (.int (z1 * 48271)) false := opMul_ok (cMul_ok (n := 64) (m := 64) (by rw [p64]; omega) (by decide) (by decide))
  have m2 : opMul (.int at_) (.int 69621) = .ok (.int (at_ * 69621)) false := opMul_ok (cMul_ok (n := 64) (m := 64) (by rw [p64]; omega) (by decide) (by decide))
  have m3 : opMul (.int at_) (.int 40503) = .ok (.int (at_ * 40503)) false := opMul_ok (cMul_ok (n := 64) (m := 64) (by rw [p64]; omega) (by decide) (by decide))
  have r1 : opMod (.int (z1 * 48271 + at_ * 69621 + 12345)) (.int 2147483647) = .ok (.int ((z1 * 48271 + at_ * 69621 + 12345) % 2147483647)) false := opMod_ok (by decide)
  have b1 : 0 ≤ (z1 * 48271 + at_ * 69621 + 12345) % 2147483647 ∧ (z1 * 48271 + at_ * 69621 + 12345) % 2147483647 < 2147483647 := ⟨Int.emod_nonneg _ (by decide), Int.emod_lt_of_pos _ (by decide)⟩
  generalize hw : (z1 * 48271 + at_ * 69621 + 12345) % 2147483647 = w1 at r1 b1
  have m4 : opMul (.int w1) (.int 16807) = .ok (.int (w1 * 16807)) false := opMul_ok (cMul_ok (n := 64) (m := 64) (by rw [p64]; omega) (by decide) (by decide))
  have r2 : opMod (.int (w1 * 16807 + at_ * 40503 + 977)) (.int 2147483629) = .ok (.int ((w1 * 16807 + at_ * 40503 + 977) % 2147483629)) false := opMod_ok (by decide)
  generalize hw2 : (w1 * 16807 + at_ * 40503 + 977) % 2147483629 = w2 at r2
  have v1 : opDiv (.int w1) (.int 64) = .ok (.int (w1 / 64)) false := div_lit (j := 64) (by decide) (by decide)
  have v2 : opDiv (.int w2) (.int 128) = .ok (.int (w2 / 128)) false := div_lit (j := 128) (by decide) (by decide)
  have r3 : opMod (.int (w1 / 64)) (.int 100) = .ok (.int (w1 / 64 % 100)) false := opMod_ok (by decide)
  have r4 : opMod (.int (w2 / 128)) (.int 100) = .ok (.int (w2 / 128 % 100)) false := opMod_ok (by decide)
  have k1 := appTo_ok (i := 1) (A := [s, .ow (.lst (l.map D.int)), .fz (.int at_), .fz (.int c), .fz (.int z1), x5, .fz (.int w1), .fz (.int w2)]) (d := .int (w1 / 64 % 100)) (z := w1 / 64 % 100) rfl rfl (by omega)
  have k2 := appTo_ok (i := 1) (A := [s, .ow (.lst ((l ++ [w1 / 64 % 100]).map D.int)), .fz (.int at_), .fz (.int c), .fz (.int z1), x5, .fz (.int w1), .fz (.int w2)]) (d := .int (w2 / 128 % 100)) (z := w2 / 128 % 100) rfl rfl (by simp; omega)
  refine ⟨(l ++ [w1 / 64 % 100]) ++ [w2 / 128 % 100], z1, .fz (.int w1), .fz (.int w2), ?_, by simp <;> omega, rfl, rfl⟩
  show sSeq _ _ _ = _
  rw [sSeq_nx e1]
  simp only [mkF, outF, inA, sSeq, sNil, sIf, sRet, vRet, sExpr, sAsg, sget, sset, eVar, eC, aNil, aCons, hold, settle, settleL, cont, contL, eTup, eLst, eB, eOp, eU, noX, eRes, mkV, tst, vTst, tNt, tAn, tOrr, eIf, eAn, eOr, eNot, eCall, sPar_a, sPar3_a, sParW, put2, put3, sAsgT, gTpl, gsCons, gsNil, gNm, sRaise, bLen, bAbs, bInt, bTup, bLst, bGcd, opIsa, opIsaLT, isa, opIx, opNeg, opAdd, opSub_a, opLt_a, opLe_a, opGt_a, opGe_a, opI, opJ, ycs, opIs, opNis, isP, isNon, List.map_cons, List.map_nil, List.length_cons, List.length_nil, List.cons_append, List.nil_append, Bool.not_true, Bool.not_false, Bool.or_true, Bool.true_or, Bool.or_false, Bool.false_or, Nat.zero_add, Nat.reduceAdd, Int.cast_ofNat_Int, beq_self_eq_true, eq_self, m1, m2, m3, m4, r1, r2, r3, r4, v1, v2, sApp, k1, k2, putV_F, putF_fz, putF_of h6, putF_of h7]
theorem atI_ints {ns : List Int} {i : Nat} (h : i < ns.length) : L2.atI (ns.map D.int) (i : Int) = some (.int ns[i]) := by
  unfold L2.atI L2.ixN
  rw [if_pos (by omega), if_pos (by rw [List.length_map]; omega)]
  simp [h]
theorem d_out (ns : List Int) : ∀ (n at_ : Nat) (l : List Int) (x2 x3 x4 x5 x6 x7 : Sl), at_ + n ≤ ns.length → at_ + n ≤ 63 → l.length + 40 * n < 100000 - 40 → frS x2 = true → frS x3 = true → frS x4 = true → frS x5 = true → frS x6 = true → frS x7 = true →
    ∃ (l' : List Int) (y2 y3 y4 y5 y6 y7 : Sl), forL (gNm 2) dB (rangeD (at_ : Int) 1 n) [.fz (.frl (ns.map D.int)), .ow (.lst (l.map D.int)), x2, x3, x4, x5, x6, x7] = .nx [.fz (.frl (ns.map D.int)), .ow (.lst (l'.map D.int)), y2, y3, y4, y5, y6, y7]
  | 0, at_, l, x2, x3, x4, x5, x6, x7, _, _, _, _, _, _, _, _, _ => ⟨l, x2, x3, x4, x5, x6, x7, rfl⟩
  | n + 1, at_, l, x2, x3, x4, x5, x6, x7, h, h63, hl, h2, h3, h4, h5, h6, h7 => by
    have g : gNm 2 (.int (at_ : Int)) [.fz (.frl (ns.map D.int)), .ow (.lst (l.map D.int)), x2, x3, x4, x5, x6, x7] = some [.fz (.frl (ns.map D.int)), .ow (.lst (l.map D.int)), .fz (.int (at_ : Int)), x3, x4, x5, x6, x7] := putV_fz h2
    have hi : at_ < ns.length := by omega
    have ix := atI_ints hi
    generalize ns[at_] = c at ix
    have ea : (if c < 0 then -c else c) = (c.natAbs : Int) := by split <;> omega
    have s1 : (sAsg 3 (eB bInt (aCons (eOp opIx (eVar 0) (eVar 2)) aNil))) [.fz (.frl (ns.map D.int)), .ow (.lst (l.map D.int)), .fz (.int (at_ : Int)), x3, x4, x5, x6, x7] = .nx [.fz (.frl (ns.map D.int)), .ow (.lst (l.map D.int)), .fz (.int (at_ : Int)), .fz (.int c), x4, x5, x6, x7] := by
      simp only [mkF, outF, inA, sSeq, sNil, sIf, sRet, vRet, sExpr, sAsg, sget, sset, eVar, eC, aNil, aCons, hold, settle, settleL, cont, contL, eTup, eLst, eB, eOp, eU, noX, eRes, mkV, tst, vTst, tNt, tAn, tOrr, eIf, eAn, eOr, eNot, eCall, sPar_a, sPar3_a, sParW, put2, put3, sAsgT, gTpl, gsCons, gsNil, gNm, sRaise, bLen, bAbs, bInt, bTup, bLst, bGcd, opIsa, opIsaLT, isa, opIx, opNeg, opAdd, opSub_a, opLt_a, opLe_a, opGt_a, opGe_a, opI, opJ, ycs, opIs, opNis, isP, isNon, List.map_cons, List.map_nil, List.length_cons, List.length_nil, List.cons_append, List.nil_append, Bool.not_true, Bool.not_false, Bool.or_true, Bool.true_or, Bool.or_false, Bool.false_or, Nat.zero_add, Nat.reduceAdd, Int.cast_ofNat_Int, beq_self_eq_true, eq_self, ix, putV_F, putF_of h3]
    have s2 : (sAsg 4 (eB bAbs (aCons (eVar 3) aNil))) [.fz (.frl (ns.map D.int)), .ow (.lst (l.map D.int)), .fz (.int (at_ : Int)), .fz (.int c), x4, x5, x6, x7] = .nx [.fz (.frl (ns.map D.int)), .ow (.lst (l.map D.int)), .fz (.int (at_ : Int)), .fz (.int c), .fz (.int (c.natAbs : Int)), x5, x6, x7] := by
      simp only [mkF, outF, inA, sSeq, sNil, sIf, sRet, vRet, sExpr, sAsg, sget, sset, eVar, eC, aNil, aCons, hold, settle, settleL, cont, contL, eTup, eLst, eB, eOp, eU, noX, eRes, mkV, tst, vTst, tNt, tAn, tOrr, eIf, eAn, eOr, eNot, eCall, sPar_a, sPar3_a, sParW, put2, put3, sAsgT, gTpl, gsCons, gsNil, gNm, sRaise, bLen, bAbs, bInt, bTup, bLst, bGcd, opIsa, opIsaLT, isa, opIx, opNeg, opAdd, opSub_a, opLt_a, opLe_a, opGt_a, opGe_a, opI, opJ, ycs, opIs, opNis, isP, isNon, List.map_cons, List.map_nil, List.length_cons, List.length_nil, List.cons_append, List.nil_append, Bool.not_true, Bool.not_false, Bool.or_true, Bool.true_or, Bool.or_false, Bool.false_or, Nat.zero_add, Nat.reduceAdd, Int.cast_ofNat_Int, beq_self_eq_true, eq_self, ea, putV_F, putF_of h4]
    have body : ∃ (l' : List Int) (z' : Int) (y5 y6 y7 : Sl), dB [.fz (.frl (ns.map D.int)), .ow (.lst (l.map D.int)), .fz (.int (at_ : Int)), x3, x4, x5, x6, x7] = .nx [.fz (.frl (ns.map D.int)), .ow (.lst (l'.map D.int)), .fz (.int (at_ : Int)), .fz (.int c), .fz (.int z'), y5, y6, y7] ∧ l'.length ≤ l.length + 40 ∧ frS y5 = true ∧ frS y6 = true ∧ frS y7 = true := by
      by_cases hb : (1000000000000000000 : Int) ≤ (c.natAbs : Int)
      · obtain ⟨l', z', x5', e, q1, q2⟩ := d_big (.fz (.frl (ns.map D.int))) (.fz (.int (at_ : Int))) l c (c.natAbs : Int) x5 x6 x7 (by omega) h5
        refine ⟨l', z', x5', x6, x7, ?_, q1, q2, h6, h7⟩
        show sSeq _ _ _ = _
        rw [sSeq_nx s1, sSeq_nx s2]
        have c1 : decide ((1000000000000000000 : Int) ≤ (c.natAbs : Int)) = true := decide_eq_true hb
        show (match (tst (eOp opGe (eVar 4) (eOp opPow (eC (.int 10)) (eC (.int 18)))) [.fz (.frl (ns.map D.int)), .ow (.lst (l.map D.int)), .fz (.int (at_ : Int)), .fz (.int c), .fz (.int (c.natAbs : Int)), x5, x6, x7]) with | .ok true A1 => dB2 A1 | .ok false A1 => dB3 A1 | .exc c fs A1 => .exc c fs A1 | .fail => .fail) = _
        simp only [mkF, outF, inA, sSeq, sNil, sIf, sRet, vRet, sExpr, sAsg, sget, sset, eVar, eC, aNil, aCons, hold, settle, settleL, cont, contL, eTup, eLst, eB, eOp, eU, noX, eRes, mkV, tst, vTst, tNt, tAn, tOrr, eIf, eAn, eOr, eNot, eCall, sPar_a, sPar3_a, sParW, put2, put3, sAsgT, gTpl, gsCons, gsNil, gNm, sRaise, bLen, bAbs, bInt, bTup, bLst, bGcd, opIsa, opIsaLT, isa, opIx, opNeg, opAdd, opSub_a, opLt_a, opLe_a, opGt_a, opGe_a, opI, opJ, ycs, opIs, opNis, isP, isNon, List.map_cons, List.map_nil, List.length_cons, List.length_nil, List.cons_append, List.nil_append, Bool.not_true, Bool.not_false, Bool.or_true, Bool.true_or, Bool.or_false, Bool.false_or, Nat.zero_add, Nat.reduceAdd, Int.cast_ofNat_Int, beq_self_eq_true, eq_self, pow10_18, c1]
        exact e
      · obtain ⟨l', z', x6', x7', e, q1, q2, q3⟩ := d_small (.fz (.frl (ns.map D.int))) l (at_ : Int) c (c.natAbs : Int) x5 x6 x7 (by omega) h6 h7 (by omega) (by omega)
        refine ⟨l', z', x5, x6', x7', ?_, q1, h5, q2, q3⟩
        show sSeq _ _ _ = _
        rw [sSeq_nx s1, sSeq_nx s2]
        have c1 : decide ((1000000000000000000 : Int) ≤ (c.natAbs : Int)) = false := decide_eq_false hb
        show (match (tst (eOp opGe (eVar 4) (eOp opPow (eC (.int 10)) (eC (.int 18)))) [.fz (.frl (ns.map D.int)), .ow (.lst (l.map D.int)), .fz (.int (at_ : Int)), .fz (.int c), .fz (.int (c.natAbs : Int)), x5, x6, x7]) with | .ok true A1 => dB2 A1 | .ok false A1 => dB3 A1 | .exc c fs A1 => .exc c fs A1 | .fail => .fail) = _
        simp only [mkF, outF, inA, sSeq, sNil, sIf, sRet, vRet, sExpr, sAsg, sget, sset, eVar, eC, aNil, aCons, hold, settle, settleL, cont, contL, eTup, eLst, eB, eOp, eU, noX, eRes, mkV, tst, vTst, tNt, tAn, tOrr, eIf, eAn, eOr, eNot, eCall, sPar_a, sPar3_a, sParW, put2, put3, sAsgT, gTpl, gsCons, gsNil, gNm, sRaise, bLen, bAbs, bInt, bTup, bLst, bGcd, opIsa, opIsaLT, isa, opIx, opNeg, opAdd, opSub_a, opLt_a, opLe_a, opGt_a, opGe_a, opI, opJ, ycs, opIs, opNis, isP, isNon, List.map_cons, List.map_nil, List.length_cons, List.length_nil, List.cons_append, List.nil_append, Bool.not_true, Bool.not_false, Bool.or_true, Bool.true_or, Bool.or_false, Bool.false_or, Nat.zero_add, Nat.reduceAdd, Int.cast_ofNat_Int, beq_self_eq_true, eq_self, pow10_18, c1]
        exact e
    obtain ⟨l1, z1, y5, y6, y7, e1, q1, q5, q6, q7⟩ := body
    obtain ⟨l', w2, w3, w4, w5, w6, w7, e2⟩ := d_out ns n (at_ + 1) l1 (.fz (.int (at_ : Int))) (.fz (.int c)) (.fz (.int z1)) y5 y6 y7 (by omega) (by omega) (by omega) rfl rfl rfl q5 q6 q7
    refine ⟨l', w2, w3, w4, w5, w6, w7, ?_⟩
    rw [rangeD_succ, forL_nx g e1]
    exact e2
theorem e_draws (ns : List Int) : ∃ l : List Int, F__law_draws [.frl (ns.map D.int)] = .ok (.lst (l.map D.int)) true := by
  obtain ⟨m, em, hm1, hm2⟩ : ∃ m : Nat, (if (63 : Int) < (((ns.map D.int).length : Nat) : Int) then (63 : Int) else (((ns.map D.int).length : Nat) : Int)) = (m : Int) ∧ m ≤ ns.length ∧ m ≤ 63 := by
    rw [List.length_map]
    by_cases c : (63 : Int) < ((ns.length : Nat) : Int)
    · exact ⟨63, by rw [if_pos c] <;> rfl, by omega, by omega⟩
    · exact ⟨ns.length, by rw [if_neg c], by omega, by omega⟩
  obtain ⟨l', y2, y3, y4, y5, y6, y7, e⟩ := d_out ns m 0 [] .un .un .un .un .un .un (by omega) (by omega) (by simp; omega) rfl rfl rfl rfl rfl rfl
  refine ⟨l', ?_⟩
  generalize hA : ([.fz (.frl (ns.map D.int)), .ow (.lst []), .un, .un, .un, .un, .un, .un] : AS) = A
  have hI : iRg rg1 (aCons (eB bMin (aCons (eB bLen (aCons (eVar 0) aNil)) (aCons (eC (.int 63)) aNil))) aNil) A = .ok (rangeD 0 1 m) [] A := by
    have hB : bMin [.int (((ns.map D.int).length : Nat) : Int), .int 63] = .ok (.int (m : Int)) false := congrArg (fun z => FR.ok (D.int z) false) em
    have hR : rg1 [.fz (.int (m : Int))] = some (rangeD 0 1 m) := by rw [rg1_ok (inB_of (by omega) (by omega))]; simp
    subst hA
    simp only [mkF, outF, inA, sSeq, sNil, sIf, sRet, vRet, sExpr, sAsg, putV, putV0, sget, sset, eVar, eC, aNil, aCons, hold, settle, settleL, cont, contL, eTup, eLst, eB, eOp, eU, noX, eRes, mkV, tst, vTst, tNt, tAn, tOrr, eIf, eAn, eOr, eNot, eCall, sPar_a, sPar3_a, sParW, put2, put3, sAsgT, gTpl, gsCons, gsNil, gNm, sRaise, bLen, bAbs, bInt, bTup, bLst, bGcd, opIsa, opIsaLT, isa, opIx, opNeg, opAdd, opSub_a, opDiv_a, opMod_a, opLt_a, opLe_a, opGt_a, opGe_a, opI, opJ, ycs, opIs, opNis, isP, isNon, List.map_cons, List.map_nil, List.length_cons, List.length_nil, List.cons_append, List.nil_append, Bool.not_true, Bool.not_false, Bool.or_true, Bool.true_or, Bool.or_false, Bool.false_or, Nat.zero_add, Nat.reduceAdd, Int.cast_ofNat_Int, beq_self_eq_true, eq_self, hB, hR, iRg]
  have hF : sFor (iRg rg1 (aCons (eB bMin (aCons (eB bLen (aCons (eVar 0) aNil)) (aCons (eC (.int 63)) aNil))) aNil)) (gNm 2) dB A = .nx [.fz (.frl (ns.map D.int)), .ow (.lst (l'.map D.int)), y2, y3, y4, y5, y6, y7] := by
    unfold sFor
    rw [hI]
    dsimp only
    rw [show rangeD 0 1 m = rangeD ((0 : Nat) : Int) 1 m from rfl, ← hA, show ([] : List D) = ([] : List Int).map D.int from rfl, e]
    rfl
  show outF (g__law_draws [.fz (.frl (ns.map D.int)), .un, .un, .un, .un, .un, .un, .un]) = _
  unfold g__law_draws
  rw [sSeq_nx (A1 := A) (by subst hA; rfl), sSeq_nx hF]
  rfl
/-- a pick -/
theorem e_pick (l : List Int) (at_ m : Int) (h0 : 0 ≤ at_) (hm : 0 < m) : ∃ p : Int, (0 ≤ p ∧ p < m) ∧ F__law_pick [.lst (l.map D.int), .int at_, .int m] = .ok (.int p) false := by
  by_cases c : at_ < (((l.map D.int).length : Nat) : Int)
  · have hi : at_.toNat < l.length := by rw [List.length_map] at c; omega
    have ix := atI_ints hi
    rw [show ((at_.toNat : Nat) : Int) = at_ by omega] at ix
    refine ⟨l[at_.toNat] % m, ⟨Int.emod_nonneg _ (by omega), Int.emod_lt_of_pos _ hm⟩, ?_⟩
    generalize l[at_.toNat] = z at ix
    have k1 : opMod (.int z) (.int m) = .ok (.int (z % m)) false := opMod_ok hm
    have c1 : decide (at_ < (((l.map D.int).length : Nat) : Int)) = true := decide_eq_true c
    show outF (g__law_pick [.fz (.lst (l.map D.int)), .fz (.int at_), .fz (.int m)]) = _
    unfold g__law_pick
    simp only [mkF, outF, inA, sSeq, sNil, sIf, sRet, vRet, sExpr, sAsg, sget, sset, eVar, eC, aNil, aCons, hold, settle, settleL, cont, contL, eTup, eLst, eB, eOp, eU, noX, eRes, mkV, tst, vTst, tNt, tAn, tOrr, eIf, eAn, eOr, eNot, eCall, sPar_a, sPar3_a, sParW, put2, put3, sAsgT, gTpl, gsCons, gsNil, gNm, sRaise, bLen, bAbs, bInt, bTup, bLst, bGcd, opIsa, opIsaLT, isa, opIx, opNeg, opAdd, opSub_a, opLt_a, opLe_a, opGt_a, opGe_a, opI, opJ, ycs, opIs, opNis, isP, isNon, List.map_cons, List.map_nil, List.length_cons, List.length_nil, List.cons_append, List.nil_append, Bool.not_true, Bool.not_false, Bool.or_true, Bool.true_or, Bool.or_false, Bool.false_or, Nat.zero_add, Nat.reduceAdd, Int.cast_ofNat_Int, beq_self_eq_true, eq_self, c1, ix, k1]
  · refine ⟨0, ⟨by omega, hm⟩, ?_⟩
    have c1 : decide (at_ < (((l.map D.int).length : Nat) : Int)) = false := decide_eq_false c
    show outF (g__law_pick [.fz (.lst (l.map D.int)), .fz (.int at_), .fz (.int m)]) = _
    unfold g__law_pick
    simp only [mkF, outF, inA, sSeq, sNil, sIf, sRet, vRet, sExpr, sAsg, sget, sset, eVar, eC, aNil, aCons, hold, settle, settleL, cont, contL, eTup, eLst, eB, eOp, eU, noX, eRes, mkV, tst, vTst, tNt, tAn, tOrr, eIf, eAn, eOr, eNot, eCall, sPar_a, sPar3_a, sParW, put2, put3, sAsgT, gTpl, gsCons, gsNil, gNm, sRaise, bLen, bAbs, bInt, bTup, bLst, bGcd, opIsa, opIsaLT, isa, opIx, opNeg, opAdd, opSub_a, opLt_a, opLe_a, opGt_a, opGe_a, opI, opJ, ycs, opIs, opNis, isP, isNon, List.map_cons, List.map_nil, List.length_cons, List.length_nil, List.cons_append, List.nil_append, Bool.not_true, Bool.not_false, Bool.or_true, Bool.true_or, Bool.or_false, Bool.false_or, Nat.zero_add, Nat.reduceAdd, Int.cast_ofNat_Int, beq_self_eq_true, eq_self, c1]
/-! ### k54: triangles -/
def half : Rat := mkRat 1 2
theorem half_fr : D.tup [.int 1, .int 2] = fr half := by
  have h1 : half.num = 1 := by decide +kernel
  have h2 : half.den = 2 := by decide +kernel
  unfold fr; rw [h1, h2]; rfl
theorem half_two : half + half = 1 := by decide +kernel
theorem half_sz : Sz 2 half := ⟨by decide +kernel, by decide +kernel⟩
theorem tri_alg (a b c : Rat) : (a + b + c) * half - a = (b + c - a) * half ∧ (a + b + c) * half - b = (a + c - b) * half ∧ (a + b + c) * half - c = (a + b - c) * half := by
  have := half_two
  refine ⟨?_, ?_, ?_⟩ <;> grind
theorem e_triangle {d1 d2 d3 : D} {a b c : Rat} {n : Nat} (h1 : Amt d1 a) (h2 : Amt d2 b) (h3 : Amt d3 c) (s1 : Sz n a) (s2 : Sz n b) (s3 : Sz n c) (hn : n < 300) :
    F_triangle [d1, d2, d3] = .ok (.tup [fr ((a + b + c) * half - a), fr ((a + b + c) * half - b), fr ((a + b + c) * half - c)]) false := by
  have k1 : F_checked_amount [d1, .str "first"] = .ok (fr a) false := e_checked h1
  have k2 : F_checked_amount [d2, .str "second"] = .ok (fr b) false := e_checked h2
  have k3 : F_checked_amount [d3, .str "third"] = .ok (fr c) false := e_checked h3
  have kt := (e_total3 (.inl rfl) (.inl rfl) (.inl rfl) s1 s2 s3 (by omega) : F_total [.lst [fr a, fr b, fr c]] = _ ∧ _).1
  have st : Sz (n + n + 1 + n + 1) (a + b + c) := (s1.add s2).add s3
  have kp := e_product st half_sz (by omega)
  have sp := st.mul half_sz
  have t1 := e_taken sp s1 (by omega)
  have t2 := e_taken sp s2 (by omega)
  have t3 := e_taken sp s3 (by omega)
  show outF (g_triangle [.fz d1, .fz d2, .fz d3, .un, .un, .un, .un, .un]) = _
  unfold g_triangle
  simp only [mkF, outF, inA, sSeq, sNil, sIf, sRet, vRet, sExpr, sAsg, putV, putV0, sget, sset, eVar, eC, aNil, aCons, hold, settle, settleL, cont, contL, eTup, eLst, eB, eOp, eU, noX, eRes, mkV, tst, vTst, tNt, tAn, tOrr, eIf, eAn, eOr, eNot, eCall, sPar_a, sPar3_a, sParW, put2, put3, sAsgT, gTpl, gsCons, gsNil, gNm, sRaise, bLen, bAbs, bInt, bTup, bLst, bGcd, opIsa, opIsaLT, isa, opIx, opNeg, opAdd, opSub_a, opMul_a, opDiv_a, opMod_a, opLt_a, opLe_a, opGt_a, opGe_a, opI, opJ, ycs, opIs, opNis, isP, isNon, List.map_cons, List.map_nil, List.length_cons, List.length_nil, List.cons_append, List.nil_append, Bool.not_true, Bool.not_false, Bool.or_true, Bool.true_or, Bool.or_false, Bool.false_or, Nat.zero_add, Nat.reduceAdd, Int.cast_ofNat_Int, beq_self_eq_true, eq_self, sFor, forL, fin, unlk, iSq, srcOf, seqD, iZp, zipD, iEn, enuD, eLc, lcL, unA, backA, quietA, tYs, eNx, iNx, Sl.isOwn, Bool.and_true, Bool.true_and, Bool.and_self, decide_true, Int.reduceAdd, Nat.reduceLeDiff, Nat.reduceLT, decide_false, k1, k2, k3, kt, kp, t1, t2, t3, half_fr]
theorem e_from {d1 d2 d3 : D} {a b c : Rat} {n : Nat} (h1 : Amt d1 a) (h2 : Amt d2 b) (h3 : Amt d3 c) (s1 : Sz n a) (s2 : Sz n b) (s3 : Sz n c) (hn : n < 300) :
    F_from_triangle [d1, d2, d3] = .ok (.bl (decide (0 ≤ (a + b + c) * half - a) && (decide (0 ≤ (a + b + c) * half - b) && decide (0 ≤ (a + b + c) * half - c)))) false := by
  have kt := e_triangle h1 h2 h3 s1 s2 s3 hn
  have nn : ∀ q : Rat, decide ((0 : Int) ≤ q.num) = decide (0 ≤ q) := fun q => decide_eq_decide.mpr Rat.num_nonneg
  have ix : ∀ q : Rat, opIx (fr q) (.int 0) = .ok (.int q.num) false := fun q => rfl
  show outF (g_from_triangle [.fz d1, .fz d2, .fz d3, .un]) = _
  unfold g_from_triangle
  generalize (a + b + c) * half - a = x at kt ⊢
  generalize (a + b + c) * half - b = y at kt ⊢
  generalize (a + b + c) * half - c = z at kt ⊢
  simp only [mkF, outF, inA, sSeq, sNil, sIf, sRet, vRet, sExpr, sAsg, putV, putV0, sget, sset, eVar, eC, aNil, aCons, hold, settle, settleL, cont, contL, eTup, eLst, eB, eOp, eU, noX, eRes, mkV, tst, vTst, tNt, tAn, tOrr, eIf, eAn, eOr, eNot, eCall, sPar_a, sPar3_a, sParW, put2, put3, sAsgT, gTpl, gsCons, gsNil, gNm, sRaise, bLen, bAbs, bInt, bTup, bLst, bGcd, opIsa, opIsaLT, isa, opNeg, opAdd, opSub_a, opMul_a, opDiv_a, opMod_a, opLt_a, opLe_a, opGt_a, opGe_a, opI, opJ, ycs, opIs, opNis, isP, isNon, List.map_cons, List.map_nil, List.length_cons, List.length_nil, List.cons_append, List.nil_append, Bool.not_true, Bool.not_false, Bool.or_true, Bool.true_or, Bool.or_false, Bool.false_or, Nat.zero_add, Nat.reduceAdd, Int.cast_ofNat_Int, beq_self_eq_true, eq_self, sFor, forL, fin, unlk, iSq, srcOf, seqD, iZp, zipD, iEn, enuD, eLc, lcL, unA, backA, quietA, tYs, eNx, iNx, Sl.isOwn, Bool.and_true, Bool.true_and, Bool.and_self, decide_true, Int.reduceAdd, Nat.reduceLeDiff, Nat.reduceLT, decide_false, kt, ix, nn, bAll, blsL, List.all_cons, List.all_nil, id]
theorem e_weighed {a b c : Rat} {n : Nat} (s1 : Sz n a) (s2 : Sz n b) (s3 : Sz n c) (hn : n < 300) :
    F__law_weighed [fr a, fr b, fr c] = .ok (.tup [fr ((a + b + c) * half - a), fr ((a + b + c) * half - b), fr ((a + b + c) * half - c)]) false := by
  obtain ⟨q1, q2, q3⟩ := tri_alg a b c
  rw [q1, q2, q3]
  have p1 := e_lplus s2 s3 (by omega)
  have p2 := e_lplus s1 s3 (by omega)
  have p3 := e_lplus s1 s2 (by omega)
  have m1 := e_lminus (s2.add s3) s1 (by omega)
  have m2 := e_lminus (s1.add s3) s2 (by omega)
  have m3 := e_lminus (s1.add s2) s3 (by omega)
  have t1 := e_ltimes ((s2.add s3).sub s1) half_sz (by omega)
  have t2 := e_ltimes ((s1.add s3).sub s2) half_sz (by omega)
  have t3 := e_ltimes ((s1.add s2).sub s3) half_sz (by omega)
  show outF (g__law_weighed [.fz (fr a), .fz (fr b), .fz (fr c), .un, .un]) = _
  unfold g__law_weighed
  simp only [mkF, outF, inA, sSeq, sNil, sIf, sRet, vRet, sExpr, sAsg, putV, putV0, sget, sset, eVar, eC, aNil, aCons, hold, settle, settleL, cont, contL, eTup, eLst, eB, eOp, eU, noX, eRes, mkV, tst, vTst, tNt, tAn, tOrr, eIf, eAn, eOr, eNot, eCall, sPar_a, sPar3_a, sParW, put2, put3, sAsgT, gTpl, gsCons, gsNil, gNm, sRaise, bLen, bAbs, bInt, bTup, bLst, bGcd, opIsa, opIsaLT, isa, opIx, opNeg, opAdd, opSub_a, opMul_a, opDiv_a, opMod_a, opLt_a, opLe_a, opGt_a, opGe_a, opI, opJ, ycs, opIs, opNis, isP, isNon, List.map_cons, List.map_nil, List.length_cons, List.length_nil, List.cons_append, List.nil_append, Bool.not_true, Bool.not_false, Bool.or_true, Bool.true_or, Bool.or_false, Bool.false_or, Nat.zero_add, Nat.reduceAdd, Int.cast_ofNat_Int, beq_self_eq_true, eq_self, sFor, forL, fin, unlk, iSq, srcOf, seqD, iZp, zipD, iEn, enuD, eLc, lcL, unA, backA, quietA, tYs, eNx, iNx, Sl.isOwn, Bool.and_true, Bool.true_and, Bool.and_self, decide_true, Int.reduceAdd, Nat.reduceLeDiff, Nat.reduceLT, decide_false, at2_0, at2_1, at3_0, at3_1, at3_2, sApp, appTo, tooLong, p1, p2, p3, m1, m2, m3, t1, t2, t3, half_fr, Nat.reduceLT, if_true]
theorem e_handed {a b c : Rat} : ∃ d1 d2 d3, F__law_handed [.lst [fr a, fr b, fr c]] = .ok (.lst [d1, d2, d3]) true ∧ Amt d1 a ∧ Amt d2 b ∧ Amt d3 c := by
  have key : ∀ q : Rat, ∃ d, Amt d q ∧ ∀ A : AS, sget A 1 = .fz (fr q) → (eIf (tst (eOp opEq (eOp opIx (eVar 1) (eC (.int 1))) (eC (.int 1)))) (eOp opIx (eVar 1) (eC (.int 0))) (eVar 1)) A = .ok (.fz d) A := fun q => by
    have i0 : opIx (fr q) (.int 0) = .ok (.int q.num) false := rfl
    have i1 : opIx (fr q) (.int 1) = .ok (.int q.den) false := rfl
    by_cases h : q.den = 1
    · refine ⟨.int q.num, .inr ⟨h, rfl⟩, fun A hA => ?_⟩
      have c1 : (((q.den : Nat) : Int) == 1) = true := by rw [h]; rfl
      simp only [mkF, outF, inA, sSeq, sNil, sIf, sRet, vRet, sExpr, sAsg, putV, putV0, sget, sset, eVar, eC, aNil, aCons, hold, settle, settleL, cont, contL, eTup, eLst, eB, eOp, eU, noX, eRes, mkV, tst, vTst, tNt, tAn, tOrr, eIf, eAn, eOr, eNot, eCall, sPar_a, sPar3_a, sParW, put2, put3, sAsgT, gTpl, gsCons, gsNil, gNm, sRaise, bLen, bAbs, bInt, bTup, bLst, bGcd, opIsa, opIsaLT, isa, opNeg, opAdd, opSub_a, opMul_a, opDiv_a, opMod_a, opLt_a, opLe_a, opGt_a, opGe_a, opI, opJ, ycs, opIs, opNis, isP, isNon, List.map_cons, List.map_nil, List.length_cons, List.length_nil, List.cons_append, List.nil_append, Bool.not_true, Bool.not_false, Bool.or_true, Bool.true_or, Bool.or_false, Bool.false_or, Nat.zero_add, Nat.reduceAdd, Int.cast_ofNat_Int, beq_self_eq_true, eq_self, hA, i0, i1, opEq, eqP_int, c1]
    · refine ⟨fr q, .inl rfl, fun A hA => ?_⟩
      have c1 : (((q.den : Nat) : Int) == 1) = false := by simp; omega
      simp only [mkF, outF, inA, sSeq, sNil, sIf, sRet, vRet, sExpr, sAsg, putV, putV0, sget, sset, eVar, eC, aNil, aCons, hold, settle, settleL, cont, contL, eTup, eLst, eB, eOp, eU, noX, eRes, mkV, tst, vTst, tNt, tAn, tOrr, eIf, eAn, eOr, eNot, eCall, sPar_a, sPar3_a, sParW, put2, put3, sAsgT, gTpl, gsCons, gsNil, gNm, sRaise, bLen, bAbs, bInt, bTup, bLst, bGcd, opIsa, opIsaLT, isa, opNeg, opAdd, opSub_a, opMul_a, opDiv_a, opMod_a, opLt_a, opLe_a, opGt_a, opGe_a, opI, opJ, ycs, opIs, opNis, isP, isNon, List.map_cons, List.map_nil, List.length_cons, List.length_nil, List.cons_append, List.nil_append, Bool.not_true, Bool.not_false, Bool.or_true, Bool.true_or, Bool.or_false, Bool.false_or, Nat.zero_add, Nat.reduceAdd, Int.cast_ofNat_Int, beq_self_eq_true, eq_self, hA, i0, i1, opEq, eqP_int, c1]
  obtain ⟨d1, a1, k1⟩ := key a
  obtain ⟨d2, a2, k2⟩ := key b
  obtain ⟨d3, a3, k3⟩ := key c
  refine ⟨d1, d2, d3, ?_, a1, a2, a3⟩
  have l : ∀ (A : AS) (q : Rat) (d : D) (r : List D), (∀ A : AS, sget A 1 = .fz (fr q) → (eIf (tst (eOp opEq (eOp opIx (eVar 1) (eC (.int 1))) (eC (.int 1)))) (eOp opIx (eVar 1) (eC (.int 0))) (eVar 1)) A = .ok (.fz d) A) →
      lcL (gNm 1) tYs (eIf (tst (eOp opEq (eOp opIx (eVar 1) (eC (.int 1))) (eC (.int 1)))) (eOp opIx (eVar 1) (eC (.int 0))) (eVar 1)) [1] (fr q :: r) [.fz (.lst [fr a, fr b, fr c]), .un] = (match lcL (gNm 1) tYs (eIf (tst (eOp opEq (eOp opIx (eVar 1) (eC (.int 1))) (eC (.int 1)))) (eOp opIx (eVar 1) (eC (.int 0))) (eVar 1)) [1] r [.fz (.lst [fr a, fr b, fr c]), .un] with | .ok es A5 => .ok (d :: es) A5 | x => x) := fun A q d r k => by
    have kk := k [.fz (.lst [fr a, fr b, fr c]), .fz (fr q)] rfl
    have gg : gNm 1 (fr q) [.fz (.lst [fr a, fr b, fr c]), .un] = some [.fz (.lst [fr a, fr b, fr c]), .fz (fr q)] := rfl
    conv => lhs; unfold lcL
    rw [gg]
    dsimp only [tYs]
    rw [kk]
    rfl
  have hl : lcL (gNm 1) tYs (eIf (tst (eOp opEq (eOp opIx (eVar 1) (eC (.int 1))) (eC (.int 1)))) (eOp opIx (eVar 1) (eC (.int 0))) (eVar 1)) [1] [fr a, fr b, fr c] [.fz (.lst [fr a, fr b, fr c]), .un] = .ok [d1, d2, d3] [.fz (.lst [fr a, fr b, fr c]), .un] := by
    rw [l [] a d1 _ k1, l [] b d2 _ k2, l [] c d3 _ k3]
    rfl
  have hq : eLc (iSq (eVar 0)) (gNm 1) tYs (eIf (tst (eOp opEq (eOp opIx (eVar 1) (eC (.int 1))) (eC (.int 1)))) (eOp opIx (eVar 1) (eC (.int 0))) (eVar 1)) [1] [.fz (.lst [fr a, fr b, fr c]), .un] = .ok (.tmp (.lst [d1, d2, d3])) [.fz (.lst [fr a, fr b, fr c]), .un] := by
    show (match lcL (gNm 1) tYs _ [1] [fr a, fr b, fr c] [.fz (.lst [fr a, fr b, fr c]), .un] with | .ok ds A2 => _ | .exc c fs A2 => _ | .fail => _) = _
    rw [hl]
    rfl
  show outF (g__law_handed [.fz (.lst [fr a, fr b, fr c]), .un]) = _
  unfold g__law_handed sRet
  rw [hq]
  rfl
/-! ### k54: cuts of three -/
def p3 : List D := [.tup [.int 0, .int 0, .int 0], .tup [.int 0, .int 0, .int 1], .tup [.int 0, .int 1, .int 0], .tup [.int 0, .int 1, .int 1], .tup [.int 0, .int 1, .int 2]]
def t1 : D := .tup [.int 0, .int 0, .int 1]
def t2 : D := .tup [.int 0, .int 1, .int 0]
def t3 : D := .tup [.int 0, .int 1, .int 1]
theorem e_partings3 : F_partings [.int 3] = .ok (.lst p3) true := by rfl
theorem e_cuts3 : F_cuts [.int 3] = .ok (.lst [t1, t2, t3]) true := by rfl
theorem e_lall3 : F__law_all [.int 3] = .ok (.lst p3) true := by rfl
theorem e_lcuts3 : F__law_cuts [.int 3] = .ok (.lst [t1, t2, t3]) true := by rfl
abbrev exB : AS → SR := (sIf (tAn (tst (eOp opNe (eOp opIx (eVar 4) (eC (.int 0))) (eC (.int 0)))) (tNt (tst (eCall F_is_finer (aCons (eVar 3) (aCons (eVar 1) aNil)))))) (sAsg 2 (eCall F_added (aCons (eVar 2) (aCons (eVar 4) aNil)))) sNil)
theorem ex_cons {told t x : D} {s q : Rat} {n m : Nat} {b : Bool} (hx : F_is_finer [x, t] = .ok (.bl b) false) (hs : Sz n s) (hq : Sz m q) (h : n + m < 8000) {x3 x4 : Sl} (h3 : frS x3 = true) (h4 : frS x4 = true) (r : List D) :
    forL (gTpl (gsCons (gNm 3) (gsCons (gNm 4) gsNil))) exB (.tup [x, fr q] :: r) [.fz told, .fz t, .fz (fr s), x3, x4] = forL (gTpl (gsCons (gNm 3) (gsCons (gNm 4) gsNil))) exB r [.fz told, .fz t, .fz (fr (if b then s else s + q)), .fz x, .fz (fr q)] := by
  have g : gTpl (gsCons (gNm 3) (gsCons (gNm 4) gsNil)) (.tup [x, fr q]) [.fz told, .fz t, .fz (fr s), x3, x4] = some [.fz told, .fz t, .fz (fr s), .fz x, .fz (fr q)] := by
    simp only [mkF, outF, inA, sSeq, sNil, sIf, sRet, vRet, sExpr, sAsg, sget, sset, eVar, eC, aNil, aCons, hold, settle, settleL, cont, contL, eTup, eLst, eB, eOp, eU, noX, eRes, mkV, tst, vTst, tNt, tAn, tOrr, eIf, eAn, eOr, eNot, eCall, sPar_a, sPar3_a, sParW, put2, put3, sAsgT, gTpl, gsCons, gsNil, gNm, sRaise, bLen, bAbs, bInt, bTup, bLst, bGcd, opIsa, opIsaLT, isa, opIx, opNeg, opAdd, opSub_a, opLt_a, opLe_a, opGt_a, opGe_a, opI, opJ, ycs, opIs, opNis, isP, isNon, List.map_cons, List.map_nil, List.length_cons, List.length_nil, List.cons_append, List.nil_append, Bool.not_true, Bool.not_false, Bool.or_true, Bool.true_or, Bool.or_false, Bool.false_or, Nat.zero_add, Nat.reduceAdd, Int.cast_ofNat_Int, beq_self_eq_true, eq_self, putV_F, putF_of h3, putF_of h4]
  have i0 : opIx (fr q) (.int 0) = .ok (.int q.num) false := rfl
  have ka := e_added hs hq h
  refine forL_nx g ?_
  by_cases hz : q.num = 0
  · have z : q = 0 := Rat.num_eq_zero.mp hz
    have c1 : (q.num == 0) = true := by rw [hz]; rfl
    have e : (if b then s else s + q) = s := by rw [z, Rat.add_zero]; split <;> rfl
    rw [e]
    simp only [exB, mkF, outF, inA, sSeq, sNil, sIf, sRet, vRet, sExpr, sAsg, sget, sset, eVar, eC, aNil, aCons, hold, settle, settleL, cont, contL, eTup, eLst, eB, eOp, eU, noX, eRes, mkV, tst, vTst, tNt, tAn, tOrr, eIf, eAn, eOr, eNot, eCall, sPar_a, sPar3_a, sParW, put2, put3, sAsgT, gTpl, gsCons, gsNil, gNm, sRaise, bLen, bAbs, bInt, bTup, bLst, bGcd, opIsa, opIsaLT, isa, opNeg, opAdd, opSub_a, opLt_a, opLe_a, opGt_a, opGe_a, opI, opJ, ycs, opIs, opNis, isP, isNon, List.map_cons, List.map_nil, List.length_cons, List.length_nil, List.cons_append, List.nil_append, Bool.not_true, Bool.not_false, Bool.or_true, Bool.true_or, Bool.or_false, Bool.false_or, Nat.zero_add, Nat.reduceAdd, Int.cast_ofNat_Int, beq_self_eq_true, eq_self, opNe, eqP_int, i0, c1]
  · have c1 : (q.num == 0) = false := beq_eq_false_iff_ne.mpr hz
    cases b with
    | true => simp only [exB, mkF, outF, inA, sSeq, sNil, sIf, sRet, vRet, sExpr, sAsg, sget, sset, eVar, eC, aNil, aCons, hold, settle, settleL, cont, contL, eTup, eLst, eB, eOp, eU, noX, eRes, mkV, tst, vTst, tNt, tAn, tOrr, eIf, eAn, eOr, eNot, eCall, sPar_a, sPar3_a, sParW, put2, put3, sAsgT, gTpl, gsCons, gsNil, gNm, sRaise, bLen, bAbs, bInt, bTup, bLst, bGcd, opIsa, opIsaLT, isa, opNeg, opAdd, opSub_a, opLt_a, opLe_a, opGt_a, opGe_a, opI, opJ, ycs, opIs, opNis, isP, isNon, List.map_cons, List.map_nil, List.length_cons, List.length_nil, List.cons_append, List.nil_append, Bool.not_true, Bool.not_false, Bool.or_true, Bool.true_or, Bool.or_false, Bool.false_or, Nat.zero_add, Nat.reduceAdd, Int.cast_ofNat_Int, beq_self_eq_true, eq_self, opNe, eqP_int, i0, c1, hx, if_true]
    | false => simp only [exB, mkF, outF, inA, sSeq, sNil, sIf, sRet, vRet, sExpr, sAsg, sget, sset, eVar, eC, aNil, aCons, hold, settle, settleL, cont, contL, eTup, eLst, eB, eOp, eU, noX, eRes, mkV, tst, vTst, tNt, tAn, tOrr, eIf, eAn, eOr, eNot, eCall, sPar_a, sPar3_a, sParW, put2, put3, sAsgT, gTpl, gsCons, gsNil, gNm, sRaise, bLen, bAbs, bInt, bTup, bLst, bGcd, opIsa, opIsaLT, isa, opNeg, opAdd, opSub_a, opLt_a, opLe_a, opGt_a, opGe_a, opI, opJ, ycs, opIs, opNis, isP, isNon, List.map_cons, List.map_nil, List.length_cons, List.length_nil, List.cons_append, List.nil_append, Bool.not_true, Bool.not_false, Bool.or_true, Bool.true_or, Bool.or_false, Bool.false_or, Nat.zero_add, Nat.reduceAdd, Int.cast_ofNat_Int, beq_self_eq_true, eq_self, opNe, eqP_int, i0, c1, hx, ka, putV_F, putF_fz, Bool.false_eq_true, if_false]
theorem e_exit {q0 q1 q2 q3 q4 : Rat} {n : Nat} (z0 : Sz n q0) (z1 : Sz n q1) (z2 : Sz n q2) (z3 : Sz n q3) (z4 : Sz n q4) (hn : n < 1000) {t : D} {b0 b1 b2 b3 b4 : Bool} (ht : bLen [t] = .ok (.int 3) false)
    (f0 : F_is_finer [.tup [.int 0, .int 0, .int 0], t] = .ok (.bl b0) false) (f1 : F_is_finer [.tup [.int 0, .int 0, .int 1], t] = .ok (.bl b1) false) (f2 : F_is_finer [.tup [.int 0, .int 1, .int 0], t] = .ok (.bl b2) false) (f3 : F_is_finer [.tup [.int 0, .int 1, .int 1], t] = .ok (.bl b3) false) (f4 : F_is_finer [.tup [.int 0, .int 1, .int 2], t] = .ok (.bl b4) false) :
    ∃ s, F_exit_at [.tup [fr q0, fr q1, fr q2, fr q3, fr q4], t] = .ok (fr s) false ∧ s = (let a := if b0 then 0 else 0 + q0; let b := if b1 then a else a + q1; let c := if b2 then b else b + q2; let d := if b3 then c else c + q3; if b4 then d else d + q4) := by
  have st : ∀ {k : Nat} {s q : Rat} (b : Bool), Sz k s → Sz n q → Sz (k + n + 1) (if b then s else s + q) := fun {k s q} b h1 h2 => by
    cases b with
    | true => exact h1.mono (by omega)
    | false => exact h1.add h2
  have y0 : Sz 1 (0 : Rat) := ⟨by decide, by decide⟩
  have y1 := st b0 y0 z0
  have y2 := st b1 y1 z1
  have y3 := st b2 y2 z2
  have y4 := st b3 y3 z3
  refine ⟨_, ?_, rfl⟩
  generalize hA : ([.fz (.tup [fr q0, fr q1, fr q2, fr q3, fr q4]), .fz t, .fz (fr 0), .un, .un] : AS) = A
  have hI : iZp (aCons (eCall F_partings (aCons (eB bLen (aCons (eVar 1) aNil)) aNil)) (aCons (eVar 0) aNil)) A = .ok (zipD p3 [fr q0, fr q1, fr q2, fr q3, fr q4]) [] A := by
    subst hA
    simp only [mkF, outF, inA, sSeq, sNil, sIf, sRet, vRet, sExpr, sAsg, putV, putV0, sget, sset, eVar, eC, aNil, aCons, hold, settle, settleL, cont, contL, eTup, eLst, eB, eOp, eU, noX, eRes, mkV, tst, vTst, tNt, tAn, tOrr, eIf, eAn, eOr, eNot, eCall, sPar_a, sPar3_a, sParW, put2, put3, sAsgT, gTpl, gsCons, gsNil, gNm, sRaise, bAbs, bInt, bTup, bLst, bGcd, opIsa, opIsaLT, isa, opIx, opNeg, opAdd, opSub_a, opMul_a, opDiv_a, opMod_a, opLt_a, opLe_a, opGt_a, opGe_a, opI, opJ, ycs, opIs, opNis, isP, isNon, List.map_cons, List.map_nil, List.length_cons, List.length_nil, List.cons_append, List.nil_append, Bool.not_true, Bool.not_false, Bool.or_true, Bool.true_or, Bool.or_false, Bool.false_or, Nat.zero_add, Nat.reduceAdd, Int.cast_ofNat_Int, beq_self_eq_true, eq_self, sFor, forL, fin, unlk, iSq, srcOf, seqD, iZp, zipD, iEn, enuD, eLc, lcL, unA, backA, quietA, tYs, eNx, iNx, Sl.isOwn, Bool.and_true, Bool.true_and, Bool.and_self, decide_true, Int.reduceAdd, Nat.reduceLeDiff, Nat.reduceLT, decide_false, ht, e_partings3]
  show outF (g_exit_at [.fz (.tup [fr q0, fr q1, fr q2, fr q3, fr q4]), .fz t, .un, .un, .un]) = _
  unfold g_exit_at
  rw [sSeq_nx (A1 := A) (by subst hA; rfl)]
  have hF : ∃ x3 x4, sFor (iZp (aCons (eCall F_partings (aCons (eB bLen (aCons (eVar 1) aNil)) aNil)) (aCons (eVar 0) aNil))) (gTpl (gsCons (gNm 3) (gsCons (gNm 4) gsNil))) exB A =
      .nx [.fz (.tup [fr q0, fr q1, fr q2, fr q3, fr q4]), .fz t, .fz (fr (let a := if b0 then 0 else 0 + q0; let b := if b1 then a else a + q1; let c := if b2 then b else b + q2; let d := if b3 then c else c + q3; if b4 then d else d + q4)), x3, x4] := by
    refine ⟨.fz (.tup [.int 0, .int 1, .int 2]), .fz (fr q4), ?_⟩
    unfold sFor
    rw [hI]
    dsimp only
    rw [← hA, show zipD p3 [fr q0, fr q1, fr q2, fr q3, fr q4] = [.tup [.tup [.int 0, .int 0, .int 0], fr q0], .tup [.tup [.int 0, .int 0, .int 1], fr q1], .tup [.tup [.int 0, .int 1, .int 0], fr q2], .tup [.tup [.int 0, .int 1, .int 1], fr q3], .tup [.tup [.int 0, .int 1, .int 2], fr q4]] from rfl]
    rw [ex_cons f0 y0 z0 (by omega) rfl rfl, ex_cons f1 y1 z1 (by omega) rfl rfl, ex_cons f2 y2 z2 (by omega) rfl rfl, ex_cons f3 y3 z3 (by omega) rfl rfl, ex_cons f4 y4 z4 (by omega) rfl rfl]
    rfl
  obtain ⟨x3, x4, hF⟩ := hF
  rw [sSeq_nx hF]
  rfl
theorem e_table5 {d0 d1 d2 d3 d4 : D} {q0 q1 q2 q3 q4 : Rat} (h0 : Amt d0 q0) (h1 : Amt d1 q1) (h2 : Amt d2 q2) (h3 : Amt d3 q3) (h4 : Amt d4 q4) :
    F_checked_table [.int 3, .lst [d0, d1, d2, d3, d4]] = .ok (.tup [fr q0, fr q1, fr q2, fr q3, fr q4]) false ∧ F_checked_table [.int 3, .tup [d0, d1, d2, d3, d4]] = .ok (.tup [fr q0, fr q1, fr q2, fr q3, fr q4]) false := by
  obtain ⟨a0, b0⟩ := e_amt h0
  obtain ⟨a1, b1⟩ := e_amt h1
  obtain ⟨a2, b2⟩ := e_amt h2
  obtain ⟨a3, b3⟩ := e_amt h3
  obtain ⟨a4, b4⟩ := e_amt h4
  refine ⟨?_, ?_⟩
  · show outF (g_checked_table [.fz (.int 3), .fz (.lst [d0, d1, d2, d3, d4]), .un, .un]) = _
    unfold g_checked_table
    simp only [mkF, outF, inA, sSeq, sNil, sIf, sRet, vRet, sExpr, sAsg, putV, putV0, sget, sset, eVar, eC, aNil, aCons, hold, settle, settleL, cont, contL, eTup, eLst, eB, eOp, eU, noX, eRes, mkV, tst, vTst, tNt, tAn, tOrr, eIf, eAn, eOr, eNot, eCall, sPar_a, sPar3_a, sParW, put2, put3, sAsgT, gTpl, gsCons, gsNil, gNm, sRaise, bLen, bAbs, bInt, bTup, bLst, bGcd, opIsa, opIsaLT, isa, opIx, opNeg, opAdd, opSub_a, opMul_a, opDiv_a, opMod_a, opLt_a, opLe_a, opGt_a, opGe_a, opI, opJ, ycs, opIs, opNis, isP, isNon, List.map_cons, List.map_nil, List.length_cons, List.length_nil, List.cons_append, List.nil_append, Bool.not_true, Bool.not_false, Bool.or_true, Bool.true_or, Bool.or_false, Bool.false_or, Nat.zero_add, Nat.reduceAdd, Int.cast_ofNat_Int, beq_self_eq_true, eq_self, sFor, forL, fin, unlk, iSq, srcOf, seqD, iZp, zipD, iEn, enuD, eLc, lcL, unA, backA, quietA, tYs, eNx, iNx, Sl.isOwn, Bool.and_true, Bool.true_and, Bool.and_self, decide_true, Int.reduceAdd, Nat.reduceLeDiff, Nat.reduceLT, decide_false, e_partings3, p3, opNe, eqP_int, a0, a1, a2, a3, a4, b0, b1, b2, b3, b4]
  · show outF (g_checked_table [.fz (.int 3), .fz (.tup [d0, d1, d2, d3, d4]), .un, .un]) = _
    unfold g_checked_table
    simp only [mkF, outF, inA, sSeq, sNil, sIf, sRet, vRet, sExpr, sAsg, putV, putV0, sget, sset, eVar, eC, aNil, aCons, hold, settle, settleL, cont, contL, eTup, eLst, eB, eOp, eU, noX, eRes, mkV, tst, vTst, tNt, tAn, tOrr, eIf, eAn, eOr, eNot, eCall, sPar_a, sPar3_a, sParW, put2, put3, sAsgT, gTpl, gsCons, gsNil, gNm, sRaise, bLen, bAbs, bInt, bTup, bLst, bGcd, opIsa, opIsaLT, isa, opIx, opNeg, opAdd, opSub_a, opMul_a, opDiv_a, opMod_a, opLt_a, opLe_a, opGt_a, opGe_a, opI, opJ, ycs, opIs, opNis, isP, isNon, List.map_cons, List.map_nil, List.length_cons, List.length_nil, List.cons_append, List.nil_append, Bool.not_true, Bool.not_false, Bool.or_true, Bool.true_or, Bool.or_false, Bool.false_or, Nat.zero_add, Nat.reduceAdd, Int.cast_ofNat_Int, beq_self_eq_true, eq_self, sFor, forL, fin, unlk, iSq, srcOf, seqD, iZp, zipD, iEn, enuD, eLc, lcL, unA, backA, quietA, tYs, eNx, iNx, Sl.isOwn, Bool.and_true, Bool.true_and, Bool.and_self, decide_true, Int.reduceAdd, Nat.reduceLeDiff, Nat.reduceLT, decide_false, e_partings3, p3, opNe, eqP_int, a0, a1, a2, a3, a4, b0, b1, b2, b3, b4]
theorem e_colour5 {row d0 d1 d2 d3 : D} {q0 q1 q2 q3 : Rat} (ht : F_checked_table [.int 3, row] = .ok (.tup [fr q0, fr q1, fr q2, fr q3, fr 0]) false) : F_colour_row [.int 3, row] = .ok (.tup [fr q0, fr q1, fr q2, fr q3, fr 0]) false := by
  have ix : opIx (.tup [fr q0, fr q1, fr q2, fr q3, fr 0]) (.int (-1)) = .ok (fr 0) false := rfl
  have ne : opNe (fr 0) (.tup [.int 0, .int 1]) = .ok (.bl false) false := by rfl
  show outF (g_colour_row [.fz (.int 3), .fz row, .un]) = _
  unfold g_colour_row
  simp only [mkF, outF, inA, sSeq, sNil, sIf, sRet, vRet, sExpr, sAsg, putV, putV0, sget, sset, eVar, eC, aNil, aCons, hold, settle, settleL, cont, contL, eTup, eLst, eB, eOp, eU, noX, eRes, mkV, tst, vTst, tNt, tAn, tOrr, eIf, eAn, eOr, eNot, eCall, sPar_a, sPar3_a, sParW, put2, put3, sAsgT, gTpl, gsCons, gsNil, gNm, sRaise, bLen, bAbs, bInt, bTup, bLst, bGcd, opIsa, opIsaLT, isa, opNeg, opAdd, opSub_a, opMul_a, opDiv_a, opMod_a, opLt_a, opLe_a, opGt_a, opGe_a, opI, opJ, ycs, opIs, opNis, isP, isNon, List.map_cons, List.map_nil, List.length_cons, List.length_nil, List.cons_append, List.nil_append, Bool.not_true, Bool.not_false, Bool.or_true, Bool.true_or, Bool.or_false, Bool.false_or, Nat.zero_add, Nat.reduceAdd, Int.cast_ofNat_Int, beq_self_eq_true, eq_self, ht, ix, ne]
theorem e_cutrates {row : D} {q0 q1 q2 q3 : Rat} {n : Nat} (ht : F_checked_table [.int 3, row] = .ok (.tup [fr q0, fr q1, fr q2, fr q3, fr 0]) false) (z0 : Sz n q0) (z1 : Sz n q1) (z2 : Sz n q2) (z3 : Sz n q3) (hn : n < 1000) (h1 : 1 ≤ n) :
    F_cut_rates [.int 3, row] = .ok (.tup [fr (q0 + q2 + q3), fr (q0 + q1 + q3), fr (q0 + q1 + q2)]) false := by
  have z4 : Sz n (0 : Rat) := (⟨by decide, by decide⟩ : Sz 1 (0 : Rat)).mono h1
  have kc := e_colour5 (d0 := .non) (d1 := .non) (d2 := .non) (d3 := .non) ht
  obtain ⟨s1, e1, r1⟩ := e_exit (t := t1) (b0 := false) (b1 := true) (b2 := false) (b3 := false) (b4 := true) z0 z1 z2 z3 z4 hn rfl (by rfl) (by rfl) (by rfl) (by rfl) (by rfl)
  obtain ⟨s2, e2, r2⟩ := e_exit (t := t2) (b0 := false) (b1 := false) (b2 := true) (b3 := false) (b4 := true) z0 z1 z2 z3 z4 hn rfl (by rfl) (by rfl) (by rfl) (by rfl) (by rfl)
  obtain ⟨s3, e3, r3⟩ := e_exit (t := t3) (b0 := false) (b1 := false) (b2 := false) (b3 := true) (b4 := true) z0 z1 z2 z3 z4 hn rfl (by rfl) (by rfl) (by rfl) (by rfl) (by rfl)
  have r1 : s1 = q0 + q2 + q3 := by rw [r1]; simp [Rat.zero_add]
  have r2 : s2 = q0 + q1 + q3 := by rw [r2]; simp [Rat.zero_add]
  have r3 : s3 = q0 + q1 + q2 := by rw [r3]; simp [Rat.zero_add]
  subst r1 r2 r3
  show outF (g_cut_rates [.fz (.int 3), .fz row, .un, .un, .un]) = _
  unfold g_cut_rates
  simp only [mkF, outF, inA, sSeq, sNil, sIf, sRet, vRet, sExpr, sAsg, putV, putV0, sget, sset, eVar, eC, aNil, aCons, hold, settle, settleL, cont, contL, eTup, eLst, eB, eOp, eU, noX, eRes, mkV, tst, vTst, tNt, tAn, tOrr, eIf, eAn, eOr, eNot, eCall, sPar_a, sPar3_a, sParW, put2, put3, sAsgT, gTpl, gsCons, gsNil, gNm, sRaise, bLen, bAbs, bInt, bTup, bLst, bGcd, opIsa, opIsaLT, isa, opIx, opNeg, opAdd, opSub_a, opMul_a, opDiv_a, opMod_a, opLt_a, opLe_a, opGt_a, opGe_a, opI, opJ, ycs, opIs, opNis, isP, isNon, List.map_cons, List.map_nil, List.length_cons, List.length_nil, List.cons_append, List.nil_append, Bool.not_true, Bool.not_false, Bool.or_true, Bool.true_or, Bool.or_false, Bool.false_or, Nat.zero_add, Nat.reduceAdd, Int.cast_ofNat_Int, beq_self_eq_true, eq_self, sFor, forL, fin, unlk, iSq, srcOf, seqD, iZp, zipD, iEn, enuD, eLc, lcL, unA, backA, quietA, tYs, eNx, iNx, Sl.isOwn, Bool.and_true, Bool.true_and, Bool.and_self, decide_true, Int.reduceAdd, Nat.reduceLeDiff, Nat.reduceLT, decide_false, e_cuts3, kc, e1, e2, e3]
theorem e_cuts5 {d0 d1 d2 d3 d4 : D} {q0 q1 q2 q3 : Rat} {n : Nat} (a0 : Amt d0 q0) (a1 : Amt d1 q1) (a2 : Amt d2 q2) (a3 : Amt d3 q3) (a4 : Amt d4 0) (z0 : Sz n q0) (z1 : Sz n q1) (z2 : Sz n q2) (z3 : Sz n q3) (hn : n < 1000) (h1 : 1 ≤ n) :
    F_cut_rates [.int 3, .lst [d0, d1, d2, d3, d4]] = .ok (.tup [fr (q0 + q2 + q3), fr (q0 + q1 + q3), fr (q0 + q1 + q2)]) false ∧ F_cut_rates [.int 3, .tup [d0, d1, d2, d3, d4]] = .ok (.tup [fr (q0 + q2 + q3), fr (q0 + q1 + q3), fr (q0 + q1 + q2)]) false :=
  ⟨e_cutrates (e_table5 a0 a1 a2 a3 a4).1 z0 z1 z2 z3 hn h1, e_cutrates (e_table5 a0 a1 a2 a3 a4).2 z0 z1 z2 z3 hn h1⟩
/-! ### k54: the law's own leaving sum -/
abbrev lvB : AS → SR := (sIf (tAn (tst (eOp opNe (eOp opIx (eOp opIx (eVar 1) (eVar 5)) (eC (.int 0))) (eC (.int 0)))) (tNt (tst (eCall F__law_finer (aCons (eOp opIx (eVar 4) (eVar 5)) (aCons (eVar 2) aNil)))))) (sAsg 3 (eCall F__law_plus (aCons (eVar 3) (aCons (eOp opIx (eVar 1) (eVar 5)) aNil)))) sNil)
theorem lv_cons {n0 row t x : D} {s q : Rat} {n m : Nat} {b : Bool} {k : Int} (hi : opIx row (.int k) = .ok (fr q) false) (hp : opIx (.lst p3) (.int k) = .ok x false) (hx : F__law_finer [x, t] = .ok (.bl b) false) (hs : Sz n s) (hq : Sz m q) (h : n + m < 7000) {x5 : Sl} (h5 : frS x5 = true) (r : List D) :
    forL (gNm 5) lvB (.int k :: r) [.fz n0, .fz row, .fz t, .fz (fr s), .ow (.lst p3), x5] = forL (gNm 5) lvB r [.fz n0, .fz row, .fz t, .fz (fr (if b then s else s + q)), .ow (.lst p3), .fz (.int k)] := by
  have g : gNm 5 (.int k) [.fz n0, .fz row, .fz t, .fz (fr s), .ow (.lst p3), x5] = some [.fz n0, .fz row, .fz t, .fz (fr s), .ow (.lst p3), .fz (.int k)] := putV_fz h5
  have i0 : opIx (fr q) (.int 0) = .ok (.int q.num) false := rfl
  have ka := e_lplus hs hq h
  refine forL_nx g ?_
  by_cases hz : q.num = 0
  · have z : q = 0 := Rat.num_eq_zero.mp hz
    have c1 : (q.num == 0) = true := by rw [hz]; rfl
    have e : (if b then s else s + q) = s := by rw [z, Rat.add_zero]; split <;> rfl
    rw [e]
    simp only [lvB, mkF, outF, inA, sSeq, sNil, sIf, sRet, vRet, sExpr, sAsg, sget, sset, eVar, eC, aNil, aCons, hold, settle, settleL, cont, contL, eTup, eLst, eB, eOp, eU, noX, eRes, mkV, tst, vTst, tNt, tAn, tOrr, eIf, eAn, eOr, eNot, eCall, sPar_a, sPar3_a, sParW, put2, put3, sAsgT, gTpl, gsCons, gsNil, gNm, sRaise, bLen, bAbs, bInt, bTup, bLst, bGcd, opIsa, opIsaLT, isa, opNeg, opAdd, opSub_a, opLt_a, opLe_a, opGt_a, opGe_a, opI, opJ, ycs, opIs, opNis, isP, isNon, List.map_cons, List.map_nil, List.length_cons, List.length_nil, List.cons_append, List.nil_append, Bool.not_true, Bool.not_false, Bool.or_true, Bool.true_or, Bool.or_false, Bool.false_or, Nat.zero_add, Nat.reduceAdd, Int.cast_ofNat_Int, beq_self_eq_true, eq_self, opNe, eqP_int, hi, i0, c1]
  · have c1 : (q.num == 0) = false := beq_eq_false_iff_ne.mpr hz
    cases b with
    | true => simp only [lvB, mkF, outF, inA, sSeq, sNil, sIf, sRet, vRet, sExpr, sAsg, sget, sset, eVar, eC, aNil, aCons, hold, settle, settleL, cont, contL, eTup, eLst, eB, eOp, eU, noX, eRes, mkV, tst, vTst, tNt, tAn, tOrr, eIf, eAn, eOr, eNot, eCall, sPar_a, sPar3_a, sParW, put2, put3, sAsgT, gTpl, gsCons, gsNil, gNm, sRaise, bLen, bAbs, bInt, bTup, bLst, bGcd, opIsa, opIsaLT, isa, opNeg, opAdd, opSub_a, opLt_a, opLe_a, opGt_a, opGe_a, opI, opJ, ycs, opIs, opNis, isP, isNon, List.map_cons, List.map_nil, List.length_cons, List.length_nil, List.cons_append, List.nil_append, Bool.not_true, Bool.not_false, Bool.or_true, Bool.true_or, Bool.or_false, Bool.false_or, Nat.zero_add, Nat.reduceAdd, Int.cast_ofNat_Int, beq_self_eq_true, eq_self, opNe, eqP_int, hi, hp, i0, c1, hx, if_true]
    | false => simp only [lvB, mkF, outF, inA, sSeq, sNil, sIf, sRet, vRet, sExpr, sAsg, sget, sset, eVar, eC, aNil, aCons, hold, settle, settleL, cont, contL, eTup, eLst, eB, eOp, eU, noX, eRes, mkV, tst, vTst, tNt, tAn, tOrr, eIf, eAn, eOr, eNot, eCall, sPar_a, sPar3_a, sParW, put2, put3, sAsgT, gTpl, gsCons, gsNil, gNm, sRaise, bLen, bAbs, bInt, bTup, bLst, bGcd, opIsa, opIsaLT, isa, opNeg, opAdd, opSub_a, opLt_a, opLe_a, opGt_a, opGe_a, opI, opJ, ycs, opIs, opNis, isP, isNon, List.map_cons, List.map_nil, List.length_cons, List.length_nil, List.cons_append, List.nil_append, Bool.not_true, Bool.not_false, Bool.or_true, Bool.true_or, Bool.or_false, Bool.false_or, Nat.zero_add, Nat.reduceAdd, Int.cast_ofNat_Int, beq_self_eq_true, eq_self, opNe, eqP_int, hi, hp, i0, c1, hx, ka, putV_F, putF_fz, Bool.false_eq_true, if_false]
theorem e_leave {q0 q1 q2 q3 q4 : Rat} {n : Nat} (z0 : Sz n q0) (z1 : Sz n q1) (z2 : Sz n q2) (z3 : Sz n q3) (z4 : Sz n q4) (hn : n < 1000) {t : D} {b0 b1 b2 b3 b4 : Bool}
    (f0 : F__law_finer [.tup [.int 0, .int 0, .int 0], t] = .ok (.bl b0) false) (f1 : F__law_finer [.tup [.int 0, .int 0, .int 1], t] = .ok (.bl b1) false) (f2 : F__law_finer [.tup [.int 0, .int 1, .int 0], t] = .ok (.bl b2) false) (f3 : F__law_finer [.tup [.int 0, .int 1, .int 1], t] = .ok (.bl b3) false) (f4 : F__law_finer [.tup [.int 0, .int 1, .int 2], t] = .ok (.bl b4) false) :
    ∃ s, F__law_leave [.int 3, .lst [fr q0, fr q1, fr q2, fr q3, fr q4], t] = .ok (fr s) false ∧ s = (let a := if b0 then 0 else 0 + q0; let b := if b1 then a else a + q1; let c := if b2 then b else b + q2; let d := if b3 then c else c + q3; if b4 then d else d + q4) := by
  have st : ∀ {k : Nat} {s q : Rat} (b : Bool), Sz k s → Sz n q → Sz (k + n + 1) (if b then s else s + q) := fun {k s q} b h1 h2 => by
    cases b with
    | true => exact h1.mono (by omega)
    | false => exact h1.add h2
  have y0 : Sz 1 (0 : Rat) := ⟨by decide, by decide⟩
  have y1 := st b0 y0 z0
  have y2 := st b1 y1 z1
  have y3 := st b2 y2 z2
  have y4 := st b3 y3 z3
  refine ⟨_, ?_, rfl⟩
  generalize hA : ([.fz (.int 3), .fz (.lst [fr q0, fr q1, fr q2, fr q3, fr q4]), .fz t, .fz (fr 0), .ow (.lst p3), .un] : AS) = A
  have hI : iRg rg1 (aCons (eB bLen (aCons (eVar 4) aNil)) aNil) A = .ok (rangeD 0 1 5) [] A := by
    subst hA
    rfl
  show outF (g__law_leave [.fz (.int 3), .fz (.lst [fr q0, fr q1, fr q2, fr q3, fr q4]), .fz t, .un, .un, .un]) = _
  unfold g__law_leave
  rw [sSeq_nx (A1 := [.fz (.int 3), .fz (.lst [fr q0, fr q1, fr q2, fr q3, fr q4]), .fz t, .fz (fr 0), .un, .un]) (by rfl)]
  rw [sSeq_nx (A1 := A) (by subst hA; simp only [mkF, outF, inA, sSeq, sNil, sIf, sRet, vRet, sExpr, sAsg, putV, putV0, sget, sset, eVar, eC, aNil, aCons, hold, settle, settleL, cont, contL, eTup, eLst, eB, eOp, eU, noX, eRes, mkV, tst, vTst, tNt, tAn, tOrr, eIf, eAn, eOr, eNot, eCall, sPar_a, sPar3_a, sParW, put2, put3, sAsgT, gTpl, gsCons, gsNil, gNm, sRaise, bLen, bAbs, bInt, bTup, bLst, bGcd, opIsa, opIsaLT, isa, opIx, opNeg, opAdd, opSub_a, opMul_a, opDiv_a, opMod_a, opLt_a, opLe_a, opGt_a, opGe_a, opI, opJ, ycs, opIs, opNis, isP, isNon, List.map_cons, List.map_nil, List.length_cons, List.length_nil, List.cons_append, List.nil_append, Bool.not_true, Bool.not_false, Bool.or_true, Bool.true_or, Bool.or_false, Bool.false_or, Nat.zero_add, Nat.reduceAdd, Int.cast_ofNat_Int, beq_self_eq_true, eq_self, e_lall3])]
  have hF : sFor (iRg rg1 (aCons (eB bLen (aCons (eVar 4) aNil)) aNil)) (gNm 5) lvB A =
      .nx [.fz (.int 3), .fz (.lst [fr q0, fr q1, fr q2, fr q3, fr q4]), .fz t, .fz (fr (let a := if b0 then 0 else 0 + q0; let b := if b1 then a else a + q1; let c := if b2 then b else b + q2; let d := if b3 then c else c + q3; if b4 then d else d + q4)), .ow (.lst p3), .fz (.int 4)] := by
    unfold sFor
    rw [hI]
    dsimp only
    rw [← hA, show rangeD 0 1 5 = [.int 0, .int 1, .int 2, .int 3, .int 4] from rfl]
    rw [lv_cons rfl rfl f0 y0 z0 (by omega) rfl, lv_cons rfl rfl f1 y1 z1 (by omega) rfl, lv_cons rfl rfl f2 y2 z2 (by omega) rfl, lv_cons rfl rfl f3 y3 z3 (by omega) rfl, lv_cons rfl rfl f4 y4 z4 (by omega) rfl]
    rfl
  rw [sSeq_nx hF]
  rfl
theorem e_leaves {q0 q1 q2 q3 : Rat} {n : Nat} (z0 : Sz n q0) (z1 : Sz n q1) (z2 : Sz n q2) (z3 : Sz n q3) (hn : n < 1000) (h1 : 1 ≤ n) :
    F__law_leave [.int 3, .lst [fr q0, fr q1, fr q2, fr q3, fr 0], t1] = .ok (fr (q0 + q2 + q3)) false ∧ F__law_leave [.int 3, .lst [fr q0, fr q1, fr q2, fr q3, fr 0], t2] = .ok (fr (q0 + q1 + q3)) false ∧ F__law_leave [.int 3, .lst [fr q0, fr q1, fr q2, fr q3, fr 0], t3] = .ok (fr (q0 + q1 + q2)) false := by
  have z4 : Sz n (0 : Rat) := (⟨by decide, by decide⟩ : Sz 1 (0 : Rat)).mono h1
  obtain ⟨s1, e1, r1⟩ := e_leave (t := t1) (b0 := false) (b1 := true) (b2 := false) (b3 := false) (b4 := true) z0 z1 z2 z3 z4 hn (by rfl) (by rfl) (by rfl) (by rfl) (by rfl)
  obtain ⟨s2, e2, r2⟩ := e_leave (t := t2) (b0 := false) (b1 := false) (b2 := true) (b3 := false) (b4 := true) z0 z1 z2 z3 z4 hn (by rfl) (by rfl) (by rfl) (by rfl) (by rfl)
  obtain ⟨s3, e3, r3⟩ := e_leave (t := t3) (b0 := false) (b1 := false) (b2 := false) (b3 := true) (b4 := true) z0 z1 z2 z3 z4 hn (by rfl) (by rfl) (by rfl) (by rfl) (by rfl)
  have r1 : s1 = q0 + q2 + q3 := by rw [r1]; simp [Rat.zero_add]
  have r2 : s2 = q0 + q1 + q3 := by rw [r2]; simp [Rat.zero_add]
  have r3 : s3 = q0 + q1 + q2 := by rw [r3]; simp [Rat.zero_add]
  subst r1 r2 r3
  exact ⟨e1, e2, e3⟩
/-! ### k54: what is refused -/
theorem e_tri_no1 {bad d2 d3 : D} (h : F_is_amount [bad] = .ok (.bl false) false) : F_triangle [bad, d2, d3] = .exc 1 [.str "first"] := by
  have k1 : F_checked_amount [bad, .str "first"] = .exc 1 [.str "first"] := e_checked_no h
  show outF (g_triangle [.fz bad, .fz d2, .fz d3, .un, .un, .un, .un, .un]) = _
  unfold g_triangle
  simp only [mkF, outF, inA, sSeq, sNil, sIf, sRet, vRet, sExpr, sAsg, putV, putV0, sget, sset, eVar, eC, aNil, aCons, hold, settle, settleL, cont, contL, eTup, eLst, eB, eOp, eU, noX, eRes, mkV, tst, vTst, tNt, tAn, tOrr, eIf, eAn, eOr, eNot, eCall, sPar_a, sPar3_a, sParW, put2, put3, sAsgT, gTpl, gsCons, gsNil, gNm, sRaise, bLen, bAbs, bInt, bTup, bLst, bGcd, opIsa, opIsaLT, isa, opIx, opNeg, opAdd, opSub_a, opMul_a, opDiv_a, opMod_a, opLt_a, opLe_a, opGt_a, opGe_a, opI, opJ, ycs, opIs, opNis, isP, isNon, List.map_cons, List.map_nil, List.length_cons, List.length_nil, List.cons_append, List.nil_append, Bool.not_true, Bool.not_false, Bool.or_true, Bool.true_or, Bool.or_false, Bool.false_or, Nat.zero_add, Nat.reduceAdd, Int.cast_ofNat_Int, beq_self_eq_true, eq_self, sFor, forL, fin, unlk, iSq, srcOf, seqD, iZp, zipD, iEn, enuD, eLc, lcL, unA, backA, quietA, tYs, eNx, iNx, Sl.isOwn, Bool.and_true, Bool.true_and, Bool.and_self, decide_true, Int.reduceAdd, Nat.reduceLeDiff, Nat.reduceLT, decide_false, k1]
theorem e_tri_no2 {bad d1 d3 : D} {a : Rat} (a1 : Amt d1 a) (h : F_is_amount [bad] = .ok (.bl false) false) : F_triangle [d1, bad, d3] = .exc 1 [.str "second"] := by
  have k1 : F_checked_amount [d1, .str "first"] = .ok (fr a) false := e_checked a1
  have k2 : F_checked_amount [bad, .str "second"] = .exc 1 [.str "second"] := e_checked_no h
  show outF (g_triangle [.fz d1, .fz bad, .fz d3, .un, .un, .un, .un, .un]) = _
  unfold g_triangle
  simp only [mkF, outF, inA, sSeq, sNil, sIf, sRet, vRet, sExpr, sAsg, putV, putV0, sget, sset, eVar, eC, aNil, aCons, hold, settle, settleL, cont, contL, eTup, eLst, eB, eOp, eU, noX, eRes, mkV, tst, vTst, tNt, tAn, tOrr, eIf, eAn, eOr, eNot, eCall, sPar_a, sPar3_a, sParW, put2, put3, sAsgT, gTpl, gsCons, gsNil, gNm, sRaise, bLen, bAbs, bInt, bTup, bLst, bGcd, opIsa, opIsaLT, isa, opIx, opNeg, opAdd, opSub_a, opMul_a, opDiv_a, opMod_a, opLt_a, opLe_a, opGt_a, opGe_a, opI, opJ, ycs, opIs, opNis, isP, isNon, List.map_cons, List.map_nil, List.length_cons, List.length_nil, List.cons_append, List.nil_append, Bool.not_true, Bool.not_false, Bool.or_true, Bool.true_or, Bool.or_false, Bool.false_or, Nat.zero_add, Nat.reduceAdd, Int.cast_ofNat_Int, beq_self_eq_true, eq_self, sFor, forL, fin, unlk, iSq, srcOf, seqD, iZp, zipD, iEn, enuD, eLc, lcL, unA, backA, quietA, tYs, eNx, iNx, Sl.isOwn, Bool.and_true, Bool.true_and, Bool.and_self, decide_true, Int.reduceAdd, Nat.reduceLeDiff, Nat.reduceLT, decide_false, k1, k2]
theorem e_tri_no3 {bad d1 d2 : D} {a b : Rat} (a1 : Amt d1 a) (a2 : Amt d2 b) (h : F_is_amount [bad] = .ok (.bl false) false) : F_triangle [d1, d2, bad] = .exc 1 [.str "third"] := by
  have k1 : F_checked_amount [d1, .str "first"] = .ok (fr a) false := e_checked a1
  have k2 : F_checked_amount [d2, .str "second"] = .ok (fr b) false := e_checked a2
  have k3 : F_checked_amount [bad, .str "third"] = .exc 1 [.str "third"] := e_checked_no h
  show outF (g_triangle [.fz d1, .fz d2, .fz bad, .un, .un, .un, .un, .un]) = _
  unfold g_triangle
  simp only [mkF, outF, inA, sSeq, sNil, sIf, sRet, vRet, sExpr, sAsg, putV, putV0, sget, sset, eVar, eC, aNil, aCons, hold, settle, settleL, cont, contL, eTup, eLst, eB, eOp, eU, noX, eRes, mkV, tst, vTst, tNt, tAn, tOrr, eIf, eAn, eOr, eNot, eCall, sPar_a, sPar3_a, sParW, put2, put3, sAsgT, gTpl, gsCons, gsNil, gNm, sRaise, bLen, bAbs, bInt, bTup, bLst, bGcd, opIsa, opIsaLT, isa, opIx, opNeg, opAdd, opSub_a, opMul_a, opDiv_a, opMod_a, opLt_a, opLe_a, opGt_a, opGe_a, opI, opJ, ycs, opIs, opNis, isP, isNon, List.map_cons, List.map_nil, List.length_cons, List.length_nil, List.cons_append, List.nil_append, Bool.not_true, Bool.not_false, Bool.or_true, Bool.true_or, Bool.or_false, Bool.false_or, Nat.zero_add, Nat.reduceAdd, Int.cast_ofNat_Int, beq_self_eq_true, eq_self, sFor, forL, fin, unlk, iSq, srcOf, seqD, iZp, zipD, iEn, enuD, eLc, lcL, unA, backA, quietA, tYs, eNx, iNx, Sl.isOwn, Bool.and_true, Bool.true_and, Bool.and_self, decide_true, Int.reduceAdd, Nat.reduceLeDiff, Nat.reduceLT, decide_false, k1, k2, k3]
theorem e_from_no {d1 d2 d3 w : D} (h : F_triangle [d1, d2, d3] = .exc 1 [w]) : F_from_triangle [d1, d2, d3] = .exc 1 [w] := by
  show outF (g_from_triangle [.fz d1, .fz d2, .fz d3, .un]) = _
  unfold g_from_triangle
  simp only [mkF, outF, inA, sSeq, sNil, sIf, sRet, vRet, sExpr, sAsg, putV, putV0, sget, sset, eVar, eC, aNil, aCons, hold, settle, settleL, cont, contL, eTup, eLst, eB, eOp, eU, noX, eRes, mkV, tst, vTst, tNt, tAn, tOrr, eIf, eAn, eOr, eNot, eCall, sPar_a, sPar3_a, sParW, put2, put3, sAsgT, gTpl, gsCons, gsNil, gNm, sRaise, bLen, bAbs, bInt, bTup, bLst, bGcd, opIsa, opIsaLT, isa, opIx, opNeg, opAdd, opSub_a, opMul_a, opDiv_a, opMod_a, opLt_a, opLe_a, opGt_a, opGe_a, opI, opJ, ycs, opIs, opNis, isP, isNon, List.map_cons, List.map_nil, List.length_cons, List.length_nil, List.cons_append, List.nil_append, Bool.not_true, Bool.not_false, Bool.or_true, Bool.true_or, Bool.or_false, Bool.false_or, Nat.zero_add, Nat.reduceAdd, Int.cast_ofNat_Int, beq_self_eq_true, eq_self, sFor, forL, fin, unlk, iSq, srcOf, seqD, iZp, zipD, iEn, enuD, eLc, lcL, unA, backA, quietA, tYs, eNx, iNx, Sl.isOwn, Bool.and_true, Bool.true_and, Bool.and_self, decide_true, Int.reduceAdd, Nat.reduceLeDiff, Nat.reduceLT, decide_false, h]
theorem e_ref {d1 d2 d3 w : D} (b : Bool) (h : F_triangle [d1, d2, d3] = .exc 1 [w]) : F__law_refused [d1, d2, d3, .bl b] = .ok w false := by
  have h2 := e_from_no h
  have c1 : ([1] : List Nat).contains 1 = true := rfl
  show outF (g__law_refused [.fz d1, .fz d2, .fz d3, .fz (.bl b), .un, .un]) = _
  unfold g__law_refused
  cases b <;> simp only [mkF, outF, inA, sSeq, sNil, sIf, sRet, vRet, sExpr, sAsg, putV, putV0, sget, sset, eVar, eC, aNil, aCons, hold, settle, settleL, cont, contL, eTup, eLst, eB, eOp, eU, noX, eRes, mkV, tst, vTst, tNt, tAn, tOrr, eIf, eAn, eOr, eNot, eCall, sPar_a, sPar3_a, sParW, put2, put3, sAsgT, gTpl, gsCons, gsNil, gNm, sRaise, bLen, bAbs, bInt, bTup, bLst, bGcd, opIsa, opIsaLT, isa, opIx, opNeg, opAdd, opSub_a, opMul_a, opDiv_a, opMod_a, opLt_a, opLe_a, opGt_a, opGe_a, opI, opJ, ycs, opIs, opNis, isP, isNon, List.map_cons, List.map_nil, List.length_cons, List.length_nil, List.cons_append, List.nil_append, Bool.not_true, Bool.not_false, Bool.or_true, Bool.true_or, Bool.or_false, Bool.false_or, Nat.zero_add, Nat.reduceAdd, Int.cast_ofNat_Int, beq_self_eq_true, eq_self, sTry, noLk, hand, exT, entA, unX, unX1, extR, extA, eFld, h, h2, c1, if_true]
theorem bad_ok (p : Int) (h : 0 ≤ p ∧ p < 3) : ∃ bad, opIx (.lst [.tup [.int 2, .int 4], .bl true, .non]) (.int p) = .ok bad false ∧ F_is_amount [bad] = .ok (.bl false) false := by
  have : p = 0 ∨ p = 1 ∨ p = 2 := by omega
  rcases this with e | e | e <;> subst e
  · exact ⟨_, rfl, by rfl⟩
  · exact ⟨_, rfl, by rfl⟩
  · exact ⟨_, rfl, by rfl⟩
/-! ### k54: the numbers -/
abbrev amB : AS → SR := (sSeq (sAsg 3 (eOp opAdd (eC (.int 1)) (eCall F__law_pick (aCons (eVar 0) (aCons (eOp opAdd (eC (.int 4)) (eVar 2)) (aCons (eC (.int 4)) aNil))))))
    (sSeq (sIf (tst (eOp opEq (eCall F__law_pick (aCons (eVar 0) (aCons (eC (.int 0)) (aCons (eC (.int 2)) aNil)))) (eC (.int 0)))) (sAsg 3 (eC (.int 1))) sNil)
    (sApp 1 (eCall F__law_frac (aCons (eOp opSub (eCall F__law_pick (aCons (eVar 0) (aCons (eOp opAdd (eC (.int 1)) (eVar 2)) (aCons (eC (.int 19)) aNil)))) (eC (.int 2))) (aCons (eVar 3) aNil))))))
theorem am_step (l : List Int) (k : Int) (hk : 0 ≤ k) (L : List D) (hL : L.length < 10) {x3 : Sl} (h3 : frS x3 = true) :
    ∃ q b, Sz 10 q ∧ amB [.fz (.lst (l.map D.int)), .ow (.lst L), .fz (.int k), x3] = .nx [.fz (.lst (l.map D.int)), .ow (.lst (L ++ [fr q])), .fz (.int k), .fz b] := by
  obtain ⟨p1, h1, e1⟩ := e_pick l (4 + k) 4 (by omega) (by decide)
  obtain ⟨p2, h2, e2⟩ := e_pick l 0 2 (by decide) (by decide)
  obtain ⟨p3, h3', e3⟩ := e_pick l (1 + k) 19 (by omega) (by decide)
  obtain ⟨b, hb, eb⟩ : ∃ b : Nat, (1 ≤ b ∧ b ≤ 4) ∧ (sIf (tst (eOp opEq (eCall F__law_pick (aCons (eVar 0) (aCons (eC (.int 0)) (aCons (eC (.int 2)) aNil)))) (eC (.int 0)))) (sAsg 3 (eC (.int 1))) sNil) [.fz (.lst (l.map D.int)), .ow (.lst L), .fz (.int k), .fz (.int (1 + p1))] = .nx [.fz (.lst (l.map D.int)), .ow (.lst L), .fz (.int k), .fz (.int (b : Int))] := by
    by_cases hz : p2 = 0
    · refine ⟨1, by omega, ?_⟩
      have c1 : (p2 == 0) = true := by rw [hz]; rfl
      simp only [mkF, outF, inA, sSeq, sNil, sIf, sRet, vRet, sExpr, sAsg, sget, sset, eVar, eC, aNil, aCons, hold, settle, settleL, cont, contL, eTup, eLst, eB, eOp, eU, noX, eRes, mkV, tst, vTst, tNt, tAn, tOrr, eIf, eAn, eOr, eNot, eCall, sPar_a, sPar3_a, sParW, put2, put3, sAsgT, gTpl, gsCons, gsNil, gNm, sRaise, bLen, bAbs, bInt, bTup, bLst, bGcd, opIsa, opIsaLT, isa, opIx, opNeg, opAdd, opSub_a, opLt_a, opLe_a, opGt_a, opGe_a, opI, opJ, ycs, opIs, opNis, isP, isNon, List.map_cons, List.map_nil, List.length_cons, List.length_nil, List.cons_append, List.nil_append, Bool.not_true, Bool.not_false, Bool.or_true, Bool.true_or, Bool.or_false, Bool.false_or, Nat.zero_add, Nat.reduceAdd, Int.cast_ofNat_Int, beq_self_eq_true, eq_self, e2, opEq, eqP_int, c1, putV_F, putF_fz]
    · refine ⟨(1 + p1).toNat, by omega, ?_⟩
      have c1 : (p2 == 0) = false := beq_eq_false_iff_ne.mpr hz
      have e : (((1 + p1).toNat : Nat) : Int) = 1 + p1 := by omega
      rw [e]
      simp only [mkF, outF, inA, sSeq, sNil, sIf, sRet, vRet, sExpr, sAsg, sget, sset, eVar, eC, aNil, aCons, hold, settle, settleL, cont, contL, eTup, eLst, eB, eOp, eU, noX, eRes, mkV, tst, vTst, tNt, tAn, tOrr, eIf, eAn, eOr, eNot, eCall, sPar_a, sPar3_a, sParW, put2, put3, sAsgT, gTpl, gsCons, gsNil, gNm, sRaise, bLen, bAbs, bInt, bTup, bLst, bGcd, opIsa, opIsaLT, isa, opIx, opNeg, opAdd, opSub_a, opLt_a, opLe_a, opGt_a, opGe_a, opI, opJ, ycs, opIs, opNis, isP, isNon, List.map_cons, List.map_nil, List.length_cons, List.length_nil, List.cons_append, List.nil_append, Bool.not_true, Bool.not_false, Bool.or_true, Bool.true_or, Bool.or_false, Bool.false_or, Nat.zero_add, Nat.reduceAdd, Int.cast_ofNat_Int, beq_self_eq_true, eq_self, e2, opEq, eqP_int, c1]
  have ht : (p3 - 2).natAbs < 2 ^ 10 := by
    have : (2 : Nat) ^ 10 = 1024 := by decide
    omega
  have hb2 : b < 2 ^ 10 := by
    have : (2 : Nat) ^ 10 = 1024 := by decide
    omega
  have ef := e_lfrac (t := p3 - 2) (b := b) (n := 10) (by omega) ht hb2 (by omega)
  refine ⟨mkRat (p3 - 2) b, .int (b : Int), mk_sz ht hb2 (by omega), ?_⟩
  have s1 : (sAsg 3 (eOp opAdd (eC (.int 1)) (eCall F__law_pick (aCons (eVar 0) (aCons (eOp opAdd (eC (.int 4)) (eVar 2)) (aCons (eC (.int 4)) aNil)))))) [.fz (.lst (l.map D.int)), .ow (.lst L), .fz (.int k), x3] = .nx [.fz (.lst (l.map D.int)), .ow (.lst L), .fz (.int k), .fz (.int (1 + p1))] := by
    simp only [mkF, outF, inA, sSeq, sNil, sIf, sRet, vRet, sExpr, sAsg, sget, sset, eVar, eC, aNil, aCons, hold, settle, settleL, cont, contL, eTup, eLst, eB, eOp, eU, noX, eRes, mkV, tst, vTst, tNt, tAn, tOrr, eIf, eAn, eOr, eNot, eCall, sPar_a, sPar3_a, sParW, put2, put3, sAsgT, gTpl, gsCons, gsNil, gNm, sRaise, bLen, bAbs, bInt, bTup, bLst, bGcd, opIsa, opIsaLT, isa, opIx, opNeg, opAdd, opSub_a, opLt_a, opLe_a, opGt_a, opGe_a, opI, opJ, ycs, opIs, opNis, isP, isNon, List.map_cons, List.map_nil, List.length_cons, List.length_nil, List.cons_append, List.nil_append, Bool.not_true, Bool.not_false, Bool.or_true, Bool.true_or, Bool.or_false, Bool.false_or, Nat.zero_add, Nat.reduceAdd, Int.cast_ofNat_Int, beq_self_eq_true, eq_self, e1, putV_F, putF_of h3]
  have hz : L.length < tooLong := by unfold tooLong; omega
  show sSeq _ _ _ = _
  rw [sSeq_nx s1, sSeq_nx eb]
  simp only [mkF, outF, inA, sSeq, sNil, sIf, sRet, vRet, sExpr, sAsg, sget, sset, eVar, eC, aNil, aCons, hold, settle, settleL, cont, contL, eTup, eLst, eB, eOp, eU, noX, eRes, mkV, tst, vTst, tNt, tAn, tOrr, eIf, eAn, eOr, eNot, eCall, sPar_a, sPar3_a, sParW, put2, put3, sAsgT, gTpl, gsCons, gsNil, gNm, sRaise, bLen, bAbs, bInt, bTup, bLst, bGcd, opIsa, opIsaLT, isa, opIx, opNeg, opAdd, opSub_a, opLt_a, opLe_a, opGt_a, opGe_a, opI, opJ, ycs, opIs, opNis, isP, isNon, List.map_cons, List.map_nil, List.length_cons, List.length_nil, List.cons_append, List.nil_append, Bool.not_true, Bool.not_false, Bool.or_true, Bool.true_or, Bool.or_false, Bool.false_or, Nat.zero_add, Nat.reduceAdd, Int.cast_ofNat_Int, beq_self_eq_true, eq_self, sApp, appTo, e3, ef, hz, if_true]
def big : Rat := ((10000000000000000000000000000 : Int) : Rat)
theorem big_fr : D.tup [.int 10000000000000000000000000000, .int 1] = fr big := rfl
theorem big_sz : Sz 100 big := ⟨by decide +kernel, by decide +kernel⟩
theorem pow10_28 : opPow (.int 10) (.int 28) = .ok (.int 10000000000000000000000000000) false := by rfl
theorem e_amounts (l : List Int) : ∃ a b c, Sz 120 a ∧ Sz 120 b ∧ Sz 120 c ∧ F__law_amounts [.lst (l.map D.int)] = .ok (.lst [fr a, fr b, fr c]) true := by
  obtain ⟨a, y1, za, ea⟩ := am_step l 0 (by decide) [] (by decide) (x3 := .un) rfl
  obtain ⟨b, y2, zb, eb⟩ := am_step l 1 (by decide) [fr a] (by simp) (x3 := .fz y1) rfl
  obtain ⟨c, y3, zc, ec⟩ := am_step l 2 (by decide) [fr a, fr b] (by simp) (x3 := .fz y2) rfl
  obtain ⟨p, hp, ep⟩ := e_pick l 7 20 (by decide) (by decide)
  have hF : sFor (iRg rg1 (aCons (eC (.int 3)) aNil)) (gNm 2) amB [.fz (.lst (l.map D.int)), .ow (.lst []), .un, .un] = .nx [.fz (.lst (l.map D.int)), .ow (.lst [fr a, fr b, fr c]), .fz (.int 2), .fz y3] := by
    have hI : iRg rg1 (aCons (eC (.int 3)) aNil) [.fz (.lst (l.map D.int)), .ow (.lst []), .un, .un] = .ok [.int 0, .int 1, .int 2] [] [.fz (.lst (l.map D.int)), .ow (.lst []), .un, .un] := by rfl
    unfold sFor
    rw [hI]
    dsimp only
    rw [forL_nx (A1 := [.fz (.lst (l.map D.int)), .ow (.lst []), .fz (.int 0), .un]) (by rfl) ea, forL_nx (A1 := [.fz (.lst (l.map D.int)), .ow (.lst [fr a]), .fz (.int 1), .fz y1]) (by rfl) eb, forL_nx (A1 := [.fz (.lst (l.map D.int)), .ow (.lst [fr a, fr b]), .fz (.int 2), .fz y2]) (by rfl) ec]
    rfl
  have done : ∀ a' : Rat, (sSeq (sIf (tst (eOp opEq (eCall F__law_pick (aCons (eVar 0) (aCons (eC (.int 7)) (aCons (eC (.int 20)) aNil)))) (eC (.int 19)))) (sSetIx 1 (eC (.int 0)) (eCall F__law_plus (aCons (eOp opIx (eVar 1) (eC (.int 0))) (aCons (eTup (aCons (eOp opPow (eC (.int 10)) (eC (.int 28))) (aCons (eC (.int 1)) aNil))) aNil)))) sNil) (sRet (eVar 1))) [.fz (.lst (l.map D.int)), .ow (.lst [fr a, fr b, fr c]), .fz (.int 2), .fz y3] = .rt (.lst [fr a', fr b, fr c]) true → F__law_amounts [.lst (l.map D.int)] = .ok (.lst [fr a', fr b, fr c]) true := fun a' h => by
    show outF (g__law_amounts [.fz (.lst (l.map D.int)), .un, .un, .un]) = _
    unfold g__law_amounts
    rw [sSeq_nx (A1 := [.fz (.lst (l.map D.int)), .ow (.lst []), .un, .un]) (by rfl), sSeq_nx hF, h]
    rfl
  by_cases hz : p = 19
  · refine ⟨a + big, b, c, (za.add big_sz).mono (by decide), zb.mono (by decide), zc.mono (by decide), done _ ?_⟩
    have c1 : (p == 19) = true := by rw [hz]; rfl
    have k := e_lplus za big_sz (by decide)
    have ix : opIx (.lst [fr a, fr b, fr c]) (.int 0) = .ok (fr a) false := rfl
    have n0 : L2.ixN 3 0 = some 0 := rfl
    simp only [mkF, outF, inA, sSeq, sNil, sIf, sRet, vRet, sExpr, sAsg, putV, putV0, sget, sset, eVar, eC, aNil, aCons, hold, settle, settleL, cont, contL, eTup, eLst, eB, eOp, eU, noX, eRes, mkV, tst, vTst, tNt, tAn, tOrr, eIf, eAn, eOr, eNot, eCall, sPar_a, sPar3_a, sParW, put2, put3, sAsgT, gTpl, gsCons, gsNil, gNm, sRaise, bLen, bAbs, bInt, bTup, bLst, bGcd, opIsa, opIsaLT, isa, opNeg, opAdd, opSub_a, opMul_a, opDiv_a, opMod_a, opLt_a, opLe_a, opGt_a, opGe_a, opI, opJ, ycs, opIs, opNis, isP, isNon, List.map_cons, List.map_nil, List.length_cons, List.length_nil, List.cons_append, List.nil_append, Bool.not_true, Bool.not_false, Bool.or_true, Bool.true_or, Bool.or_false, Bool.false_or, Nat.zero_add, Nat.reduceAdd, Int.cast_ofNat_Int, beq_self_eq_true, eq_self, ep, opEq, eqP_int, c1, sSetIx, setAt, ix, k, pow10_28, big_fr, n0, List.set_cons_zero]
  · refine ⟨a, b, c, za.mono (by decide), zb.mono (by decide), zc.mono (by decide), done _ ?_⟩
    have c1 : (p == 19) = false := beq_eq_false_iff_ne.mpr hz
    simp only [mkF, outF, inA, sSeq, sNil, sIf, sRet, vRet, sExpr, sAsg, putV, putV0, sget, sset, eVar, eC, aNil, aCons, hold, settle, settleL, cont, contL, eTup, eLst, eB, eOp, eU, noX, eRes, mkV, tst, vTst, tNt, tAn, tOrr, eIf, eAn, eOr, eNot, eCall, sPar_a, sPar3_a, sParW, put2, put3, sAsgT, gTpl, gsCons, gsNil, gNm, sRaise, bLen, bAbs, bInt, bTup, bLst, bGcd, opIsa, opIsaLT, isa, opNeg, opAdd, opSub_a, opMul_a, opDiv_a, opMod_a, opLt_a, opLe_a, opGt_a, opGe_a, opI, opJ, ycs, opIs, opNis, isP, isNon, List.map_cons, List.map_nil, List.length_cons, List.length_nil, List.cons_append, List.nil_append, Bool.not_true, Bool.not_false, Bool.or_true, Bool.true_or, Bool.or_false, Bool.false_or, Nat.zero_add, Nat.reduceAdd, Int.cast_ofNat_Int, beq_self_eq_true, eq_self, ep, opEq, eqP_int, c1]
/-! ### k54: the law -/
theorem ne_three (a b c : Rat) : opNe (.tup [fr a, fr b, fr c]) (.tup [fr a, fr b, fr c]) = .ok (.bl false) false := by
  have e : eqP (.tup [fr a, fr b, fr c]) (.tup [fr a, fr b, fr c]) = some true := by
    show (if (true && true) = true then some (PySem.PyData.eqv (.tuple [.tuple [.int a.num, .int a.den], .tuple [.int b.num, .int b.den], .tuple [.int c.num, .int c.den]]) (.tuple [.tuple [.int a.num, .int a.den], .tuple [.int b.num, .int b.den], .tuple [.int c.num, .int c.den]])) else none) = _
    simp [PySem.PyData.eqv, PySem.PyData.eqvAll]
  unfold opNe
  rw [e]
  rfl
theorem e_whole {a b c : Int} : ∃ m x y z : Int, (0 ≤ m ∧ m < 2) ∧ 2 * x = a + b - c - m ∧ 2 * y = a + c - b - m ∧ 2 * z = b + c - a - m ∧ F__law_whole [.int a, .int b, .int c] = .ok (.tup [.int m, .int x, .int y, .int z, .int 0]) false := by
  have r : opMod (.int (a + b + c)) (.int 2) = .ok (.int ((a + b + c) % 2)) false := opMod_ok (by decide)
  have d : ∀ i : Int, opDiv (.int i) (.int 2) = .ok (.int (i / 2)) false := fun i => div_lit (j := 2) (by decide) (by decide)
  refine ⟨(a + b + c) % 2, (a + b - c - (a + b + c) % 2) / 2, (a + c - b - (a + b + c) % 2) / 2, (b + c - a - (a + b + c) % 2) / 2, by omega, by omega, by omega, by omega, ?_⟩
  show outF (g__law_whole [.fz (.int a), .fz (.int b), .fz (.int c), .un, .un]) = _
  unfold g__law_whole
  simp only [mkF, outF, inA, sSeq, sNil, sIf, sRet, vRet, sExpr, sAsg, sget, sset, eVar, eC, aNil, aCons, hold, settle, settleL, cont, contL, eTup, eLst, eB, eOp, eU, noX, eRes, mkV, tst, vTst, tNt, tAn, tOrr, eIf, eAn, eOr, eNot, eCall, sPar_a, sPar3_a, sParW, put2, put3, sAsgT, gTpl, gsCons, gsNil, gNm, sRaise, bLen, bAbs, bInt, bTup, bLst, bGcd, opIsa, opIsaLT, isa, opIx, opNeg, opAdd, opSub_a, opLt_a, opLe_a, opGt_a, opGe_a, opI, opJ, ycs, opIs, opNis, isP, isNon, List.map_cons, List.map_nil, List.length_cons, List.length_nil, List.cons_append, List.nil_append, Bool.not_true, Bool.not_false, Bool.or_true, Bool.true_or, Bool.or_false, Bool.false_or, Nat.zero_add, Nat.reduceAdd, Int.cast_ofNat_Int, beq_self_eq_true, eq_self, at2_0, at2_1, at3_0, at3_1, at3_2, r, d, putV, putV0, if_true]
theorem sz_int {i : Int} {n : Nat} (h : i.natAbs < 2 ^ n) : Sz (n + 1) (i : Rat) := ⟨by
  rw [Rat.num_intCast, Nat.pow_succ]; omega, by rw [Rat.den_intCast]; exact Nat.one_lt_two_pow (by omega)⟩
theorem amt_int (i : Int) : Amt (.int i) (i : Rat) := .inr ⟨rfl, rfl⟩
theorem amt_fr (q : Rat) : Amt (fr q) q := .inl rfl
theorem lt_half (a b c : Rat) : (0 ≤ (a + b + c) * half - a ↔ ¬ (b + c < a)) ∧ (0 ≤ (a + b + c) * half - b ↔ ¬ (a + c < b)) ∧ (0 ≤ (a + b + c) * half - c ↔ ¬ (a + b < c)) := by
  have e : (a + b + c) * half + (a + b + c) * half = a + b + c := by
    have := half_two
    grind
  generalize (a + b + c) * half = h at e ⊢
  refine ⟨?_, ?_, ?_⟩ <;> grind
theorem free_ok (l : List Int) (k : Int) (hk : 0 ≤ k) : ∃ q : Rat, Sz 10 q ∧ 0 ≤ q ∧ ∀ A : AS, sget A 1 = .fz (.lst (l.map D.int)) → sget A 14 = .fz (.int k) →
    (eCall F__law_frac (aCons (eCall F__law_pick (aCons (eVar 1) (aCons (eOp opAdd (eC (.int 8)) (eVar 14)) (aCons (eC (.int 10)) aNil)))) (aCons (eOp opAdd (eC (.int 1)) (eCall F__law_pick (aCons (eVar 1) (aCons (eOp opAdd (eC (.int 12)) (eVar 14)) (aCons (eC (.int 3)) aNil))))) aNil))) A = .ok (.fz (fr q)) A := by
  obtain ⟨p1, h1, e1⟩ := e_pick l (8 + k) 10 (by omega) (by decide)
  obtain ⟨p2, h2, e2⟩ := e_pick l (12 + k) 3 (by omega) (by decide)
  have t10 : (2 : Nat) ^ 10 = 1024 := by decide
  have eb : (((1 + p2).toNat : Nat) : Int) = 1 + p2 := by omega
  have ef := e_lfrac (t := p1) (b := (1 + p2).toNat) (n := 10) (by omega) (by omega) (by omega) (by omega)
  rw [eb] at ef
  refine ⟨mkRat p1 (1 + p2).toNat, mk_sz (by omega) (by omega) (by omega), ?_, fun A hA hk => ?_⟩
  · rw [← Rat.num_nonneg, mk_num (by omega)]
    exact Int.ediv_nonneg h1.1 (by omega)
  · simp only [mkF, outF, inA, sSeq, sNil, sIf, sRet, vRet, sExpr, sAsg, sget, sset, eVar, eC, aNil, aCons, hold, settle, settleL, cont, contL, eTup, eLst, eB, eOp, eU, noX, eRes, mkV, tst, vTst, tNt, tAn, tOrr, eIf, eAn, eOr, eNot, eCall, sPar_a, sPar3_a, sParW, put2, put3, sAsgT, gTpl, gsCons, gsNil, gNm, sRaise, bLen, bAbs, bInt, bTup, bLst, bGcd, opIsa, opIsaLT, isa, opIx, opNeg, opAdd, opSub_a, opLt_a, opLe_a, opGt_a, opGe_a, opI, opJ, ycs, opIs, opNis, isP, isNon, List.map_cons, List.map_nil, List.length_cons, List.length_nil, List.cons_append, List.nil_append, Bool.not_true, Bool.not_false, Bool.or_true, Bool.true_or, Bool.or_false, Bool.false_or, Nat.zero_add, Nat.reduceAdd, Int.cast_ofNat_Int, beq_self_eq_true, eq_self, hA, hk, e1, e2, ef]
theorem int_of {a : Rat} (h : a.den = 1) : a = (a.num : Rat) := by
  refine Rat.ext ?_ ?_
  · rw [Rat.num_intCast]
  · rw [Rat.den_intCast]; exact h
theorem whole_ok {a b c : Rat} {n : Nat} (ha : a.den = 1) (hb : b.den = 1) (hc : c.den = 1) (sa : Sz n a) (sb : Sz n b) (sc : Sz n c) (hn : n < 200) (n1 : ¬ (b + c < a)) (n2 : ¬ (a + c < b)) (n3 : ¬ (a + b < c)) :
    ∃ row v, F__law_whole [.int a.num, .int b.num, .int c.num] = .ok row false ∧ bMin [row] = .ok (.int v) false ∧ 0 ≤ v ∧ F_cut_rates [.int 3, row] = .ok (.tup [fr c, fr b, fr a]) false := by
  have ea := int_of ha
  have eb := int_of hb
  have ec := int_of hc
  have ka := sa.num
  have kb := sb.num
  have kc := sc.num
  generalize a.num = i at ea ka
  generalize b.num = j at eb kb
  generalize c.num = k at ec kc
  subst ea eb ec
  obtain ⟨m, x, y, z, hm, hx, hy, hz, e⟩ := e_whole (a := i) (b := j) (c := k)
  have m1 : ¬ (j + k < i) := fun h => n1 (by rw [← Rat.intCast_add]; exact Rat.intCast_lt_intCast.mpr h)
  have m2 : ¬ (i + k < j) := fun h => n2 (by rw [← Rat.intCast_add]; exact Rat.intCast_lt_intCast.mpr h)
  have m3 : ¬ (i + j < k) := fun h => n3 (by rw [← Rat.intCast_add]; exact Rat.intCast_lt_intCast.mpr h)
  have e2n : 2 ^ (n + 2) = 2 ^ n * 4 := by rw [Nat.pow_add]
  refine ⟨_, [x, y, z, 0].foldl min m, e, rfl, by simp only [List.foldl]; omega, ?_⟩
  have q := (e_cuts5 (n := n + 3) (amt_int m) (amt_int x) (amt_int y) (amt_int z) (.inr ⟨rfl, rfl⟩ : Amt (.int 0) 0) (sz_int (by omega)) (sz_int (by omega)) (sz_int (by omega)) (sz_int (by omega)) (by omega) (by omega)).2
  rw [q, ← Rat.intCast_add, ← Rat.intCast_add, ← Rat.intCast_add, ← Rat.intCast_add, ← Rat.intCast_add, show m + y + z = k by omega, show m + x + z = j by omega, show m + x + y = i by omega]
abbrev frE : AS → ER := (eCall F__law_frac (aCons (eCall F__law_pick (aCons (eVar 1) (aCons (eOp opAdd (eC (.int 8)) (eVar 14)) (aCons (eC (.int 10)) aNil)))) (aCons (eOp opAdd (eC (.int 1)) (eCall F__law_pick (aCons (eVar 1) (aCons (eOp opAdd (eC (.int 12)) (eVar 14)) (aCons (eC (.int 3)) aNil))))) aNil)))
theorem frees_ok (l : List Int) : ∃ f0 f1 f2 f3 : Rat, (Sz 10 f0 ∧ Sz 10 f1 ∧ Sz 10 f2 ∧ Sz 10 f3) ∧ (0 ≤ f0 ∧ 0 ≤ f1 ∧ 0 ≤ f2 ∧ 0 ≤ f3) ∧ ∀ s0 s2 s3 s4 s5 s6 s7 s8 s9 s10 s11 s12 s13 s15 : Sl,
    eLc (iRg rg1 (aCons (eC (.int 4)) aNil)) (gNm 14) tYs frE [14] [s0, .fz (.lst (l.map D.int)), s2, s3, s4, s5, s6, s7, s8, s9, s10, s11, s12, s13, .un, s15] = .ok (.tmp (.lst [fr f0, fr f1, fr f2, fr f3])) [s0, .fz (.lst (l.map D.int)), s2, s3, s4, s5, s6, s7, s8, s9, s10, s11, s12, s13, .un, s15] := by
  obtain ⟨f0, z0, p0, k0⟩ := free_ok l 0 (by decide)
  obtain ⟨f1, z1, p1, k1⟩ := free_ok l 1 (by decide)
  obtain ⟨f2, z2, p2, k2⟩ := free_ok l 2 (by decide)
  obtain ⟨f3, z3, p3, k3⟩ := free_ok l 3 (by decide)
  refine ⟨f0, f1, f2, f3, ⟨z0, z1, z2, z3⟩, ⟨p0, p1, p2, p3⟩, fun s0 s2 s3 s4 s5 s6 s7 s8 s9 s10 s11 s12 s13 s15 => ?_⟩
  have hI : iRg rg1 (aCons (eC (.int 4)) aNil) [s0, .fz (.lst (l.map D.int)), s2, s3, s4, s5, s6, s7, s8, s9, s10, s11, s12, s13, .un, s15] = .ok [.int 0, .int 1, .int 2, .int 3] [] [s0, .fz (.lst (l.map D.int)), s2, s3, s4, s5, s6, s7, s8, s9, s10, s11, s12, s13, .un, s15] := by rfl
  have stp : ∀ (k : Int) (q : Rat) (r : List D), frE [s0, .fz (.lst (l.map D.int)), s2, s3, s4, s5, s6, s7, s8, s9, s10, s11, s12, s13, .fz (.int k), s15] = .ok (.fz (fr q)) [s0, .fz (.lst (l.map D.int)), s2, s3, s4, s5, s6, s7, s8, s9, s10, s11, s12, s13, .fz (.int k), s15] →
      lcL (gNm 14) tYs frE [14] (.int k :: r) [s0, .fz (.lst (l.map D.int)), s2, s3, s4, s5, s6, s7, s8, s9, s10, s11, s12, s13, .un, s15] = (match lcL (gNm 14) tYs frE [14] r [s0, .fz (.lst (l.map D.int)), s2, s3, s4, s5, s6, s7, s8, s9, s10, s11, s12, s13, .un, s15] with | .ok es A5 => .ok (fr q :: es) A5 | x => x) := fun k q r h => by
    have gg : gNm 14 (.int k) [s0, .fz (.lst (l.map D.int)), s2, s3, s4, s5, s6, s7, s8, s9, s10, s11, s12, s13, .un, s15] = some [s0, .fz (.lst (l.map D.int)), s2, s3, s4, s5, s6, s7, s8, s9, s10, s11, s12, s13, .fz (.int k), s15] := rfl
    conv => lhs; unfold lcL
    rw [gg]
    dsimp only [tYs]
    rw [h]
    rfl
  have hl : lcL (gNm 14) tYs frE [14] [.int 0, .int 1, .int 2, .int 3] [s0, .fz (.lst (l.map D.int)), s2, s3, s4, s5, s6, s7, s8, s9, s10, s11, s12, s13, .un, s15] = .ok [fr f0, fr f1, fr f2, fr f3] [s0, .fz (.lst (l.map D.int)), s2, s3, s4, s5, s6, s7, s8, s9, s10, s11, s12, s13, .un, s15] := by
    rw [stp 0 f0 _ (k0 _ rfl rfl), stp 1 f1 _ (k1 _ rfl rfl), stp 2 f2 _ (k2 _ rfl rfl), stp 3 f3 _ (k3 _ rfl rfl)]
    rfl
  unfold eLc
  rw [hI]
  show (match lcL (gNm 14) tYs frE [14] [.int 0, .int 1, .int 2, .int 3] [s0, .fz (.lst (l.map D.int)), s2, s3, s4, s5, s6, s7, s8, s9, s10, s11, s12, s13, .un, s15] with | .ok ds A2 => _ | .exc c fs A2 => _ | .fail => _) = _
  rw [hl]
  rfl
theorem law_true (ns : List Int) (hl : ns.length ≤ 63) : F_law [.frl (ns.map D.int)] = .ok (.bl true) false := by
  obtain ⟨l, e1⟩ := e_draws ns
  obtain ⟨a, b, c, za, zb, zc, e2⟩ := e_amounts l
  obtain ⟨d1, d2, d3, e6, a1, a2, a3⟩ := e_handed (a := a) (b := b) (c := c)
  have e7 := e_weighed za zb zc (by decide)
  have tr1 := e_triangle (amt_fr a) (amt_fr b) (amt_fr c) za zb zc (by decide)
  have tr2 := e_triangle a1 a2 a3 za zb zc (by decide)
  have fv := e_from a1 (amt_fr b) a3 za zb zc (by decide)
  obtain ⟨q1, q2, q3⟩ := lt_half a b c
  have sh : Sz 400 ((a + b + c) * half) := (((za.add zb).add zc).mul half_sz).mono (by decide)
  have he : (a + b + c) * half + (a + b + c) * half = a + b + c := by
    have := half_two
    grind
  generalize (a + b + c) * half = h at e7 tr1 tr2 fv q1 q2 q3 sh he
  have sx : Sz 600 (h - a) := (sh.sub za).mono (by decide)
  have sy : Sz 600 (h - b) := (sh.sub zb).mono (by decide)
  have sz : Sz 600 (h - c) := (sh.sub zc).mono (by decide)
  -- the first row
  have cr := (e_cuts5 (.inr ⟨rfl, rfl⟩ : Amt (.int 0) 0) (amt_fr (h - c)) (amt_fr (h - b)) (amt_fr (h - a)) (.inr ⟨rfl, rfl⟩ : Amt (.int 0) 0) ((⟨by decide, by decide⟩ : Sz 1 (0 : Rat)).mono (by decide : 1 ≤ 600)) sz sy sx (by decide) (by decide)).2
  rw [show 0 + (h - b) + (h - a) = c by grind, show 0 + (h - c) + (h - a) = b by grind, show 0 + (h - c) + (h - b) = a by grind] at cr
  have ne0 := ne_three c b a
  -- over
  have l1 := e_lless (zb.add zc) za (by decide)
  have l2 := e_lless (za.add zc) zb (by decide)
  have l3 := e_lless (za.add zb) zc (by decide)
  have p1 := e_lplus zb zc (by decide)
  have p2 := e_lplus za zc (by decide)
  have p3' := e_lplus za zb (by decide)
  have fw : F_from_triangle [d1, fr b, d3] = .ok (.bl (!(decide (b + c < a) || (decide (a + c < b) || decide (a + b < c))))) false := by
    have y1 : decide (0 ≤ h - a) = !decide (b + c < a) := by
      by_cases u : b + c < a <;> simp [q1, u]
    have y2 : decide (0 ≤ h - b) = !decide (a + c < b) := by
      by_cases u : a + c < b <;> simp [q2, u]
    have y3 : decide (0 ≤ h - c) = !decide (a + b < c) := by
      by_cases u : a + b < c <;> simp [q3, u]
    rw [fv, y1, y2, y3, Bool.not_or, Bool.not_or]
  clear fv
  have nov : (decide (b + c < a) || (decide (a + c < b) || decide (a + b < c))) = false → ¬ (b + c < a) ∧ ¬ (a + c < b) ∧ ¬ (a + b < c) := fun w => by
    simp only [Bool.or_eq_false_iff, decide_eq_false_iff_not] at w
    exact ⟨w.1, w.2.1, w.2.2⟩
  generalize decide (b + c < a) = x1 at l1 fw nov
  generalize decide (a + c < b) = x2 at l2 fw nov
  generalize decide (a + b < c) = x3 at l3 fw nov
  generalize ho : (x1 || (x2 || x3)) = ov at fw nov
  generalize hX : h - a = X at *
  generalize hY : h - b = Y at *
  generalize hZ : h - c = Z at *
  obtain ⟨f0, f1, f2, f3, ⟨z0, z1, z2, z3⟩, ⟨g0, g1, g2, g3⟩, fr4⟩ := frees_ok l
  have ex := (e_cuts5 (amt_fr f0) (amt_fr f1) (amt_fr f2) (amt_fr f3) (.inr ⟨rfl, rfl⟩ : Amt (.int 0) 0) z0 z1 z2 z3 (by decide) (by decide)).1
  obtain ⟨lv1, lv2, lv3⟩ := e_leaves z0 z1 z2 z3 (by decide) (by decide)
  have nex := ne_three (f0 + f2 + f3) (f0 + f1 + f3) (f0 + f1 + f2)
  have fx := e_from (amt_fr (f0 + f1 + f2)) (amt_fr (f0 + f1 + f3)) (amt_fr (f0 + f2 + f3)) (((z0.add z1).add z2).mono (by decide : _ ≤ 100)) (((z0.add z1).add z3).mono (by decide : _ ≤ 100)) (((z0.add z2).add z3).mono (by decide : _ ≤ 100)) (by decide)
  obtain ⟨w1, w2, w3⟩ := lt_half (f0 + f1 + f2) (f0 + f1 + f3) (f0 + f2 + f3)
  rw [decide_eq_true (w1.mpr (by grind)), decide_eq_true (w2.mpr (by grind)), decide_eq_true (w3.mpr (by grind))] at fx
  generalize f0 + f2 + f3 = E1 at *
  generalize f0 + f1 + f3 = E2 at *
  generalize f0 + f1 + f2 = E3 at *
  obtain ⟨pb, hpb, epb⟩ := e_pick l 16 3 (by decide) (by decide)
  obtain ⟨bad, ib, nb⟩ := bad_ok pb hpb
  have r1 := e_ref false (e_tri_no1 (d2 := bad) (d3 := fr b) nb)
  have r2 := e_ref true (e_tri_no2 (d3 := bad) (amt_fr a) nb)
  have r3 := e_ref true (e_tri_no3 (amt_fr a) (amt_fr b) nb)
  have r4 := e_ref false (e_tri_no3 (amt_fr a) (amt_fr b) nb)
  have i3 : ∀ x y z : D, opIx (.lst [x, y, z]) (.int 0) = .ok x false ∧ opIx (.lst [x, y, z]) (.int 1) = .ok y false ∧ opIx (.lst [x, y, z]) (.int 2) = .ok z false := fun _ _ _ => ⟨rfl, rfl, rfl⟩
  have j3 : ∀ x y z : D, opIx (.tup [x, y, z]) (.int 0) = .ok x false ∧ opIx (.tup [x, y, z]) (.int 1) = .ok y false ∧ opIx (.tup [x, y, z]) (.int 2) = .ok z false := fun _ _ _ => ⟨rfl, rfl, rfl⟩
  have iq : ∀ q : Rat, opIx (fr q) (.int 0) = .ok (.int q.num) false ∧ opIx (fr q) (.int 1) = .ok (.int q.den) false := fun _ => ⟨rfl, rfl⟩
  generalize hs : (Sl.fz (.frl (ns.map D.int))) = s0
  have hs0 : ∀ r : AS, sget (s0 :: r) 0 = .fz (.frl (ns.map D.int)) := fun r => hs.symm
  show outF (g_law [Sl.fz (.frl (ns.map D.int)), .un, .un, .un, .un, .un, .un, .un, .un, .un, .un, .un, .un, .un, .un, .un]) = _
  rw [hs]
  unfold g_law
  rw [sSeq_nx (A1 := [s0, .ow (.lst (l.map D.int)), .un, .un, .un, .un, .un, .un, .un, .un, .un, .un, .un, .un, .un, .un]) (by rw [← hs]; simp only [mkF, outF, inA, sSeq, sNil, sIf, sRet, vRet, sExpr, sAsg, putV, putV0, sget, sset, eVar, eC, aNil, aCons, hold, settle, settleL, cont, contL, eTup, eLst, eB, eOp, eU, noX, eRes, mkV, tst, vTst, tNt, tAn, tOrr, eIf, eAn, eOr, eNot, eCall, sPar_a, sPar3_a, sParW, put2, put3, sAsgT, gTpl, gsCons, gsNil, gNm, sRaise, bLen, bAbs, bInt, bTup, bLst, bGcd, opIsa, opIsaLT, isa, opNeg, opAdd, opSub_a, opMul_a, opDiv_a, opMod_a, opLt_a, opLe_a, opGt_a, opGe_a, opI, opJ, ycs, opIs, opNis, isP, isNon, List.map_cons, List.map_nil, List.length_cons, List.length_nil, List.cons_append, List.nil_append, Bool.not_true, Bool.not_false, Bool.or_true, Bool.true_or, Bool.or_false, Bool.false_or, Nat.zero_add, Nat.reduceAdd, Int.cast_ofNat_Int, beq_self_eq_true, eq_self, e1])]
  rw [sSeq_nx (A1 := [s0, .fz (.lst (l.map D.int)), .ow (.lst [fr a, fr b, fr c]), .un, .un, .un, .un, .un, .un, .un, .un, .un, .un, .un, .un, .un]) (by simp only [mkF, outF, inA, sSeq, sNil, sIf, sRet, vRet, sExpr, sAsg, putV, putV0, sget, sset, eVar, eC, aNil, aCons, hold, settle, settleL, cont, contL, eTup, eLst, eB, eOp, eU, noX, eRes, mkV, tst, vTst, tNt, tAn, tOrr, eIf, eAn, eOr, eNot, eCall, sPar_a, sPar3_a, sParW, put2, put3, sAsgT, gTpl, gsCons, gsNil, gNm, sRaise, bLen, bAbs, bInt, bTup, bLst, bGcd, opIsa, opIsaLT, isa, opNeg, opAdd, opSub_a, opMul_a, opDiv_a, opMod_a, opLt_a, opLe_a, opGt_a, opGe_a, opI, opJ, ycs, opIs, opNis, isP, isNon, List.map_cons, List.map_nil, List.length_cons, List.length_nil, List.cons_append, List.nil_append, Bool.not_true, Bool.not_false, Bool.or_true, Bool.true_or, Bool.or_false, Bool.false_or, Nat.zero_add, Nat.reduceAdd, Int.cast_ofNat_Int, beq_self_eq_true, eq_self, e2])]
  rw [sSeq_nx (A1 := [s0, .fz (.lst (l.map D.int)), .ow (.lst [fr a, fr b, fr c]), .fz (fr a), .un, .un, .un, .un, .un, .un, .un, .un, .un, .un, .un, .un]) (by simp only [mkF, outF, inA, sSeq, sNil, sIf, sRet, vRet, sExpr, sAsg, putV, putV0, sget, sset, eVar, eC, aNil, aCons, hold, settle, settleL, cont, contL, eTup, eLst, eB, eOp, eU, noX, eRes, mkV, tst, vTst, tNt, tAn, tOrr, eIf, eAn, eOr, eNot, eCall, sPar_a, sPar3_a, sParW, put2, put3, sAsgT, gTpl, gsCons, gsNil, gNm, sRaise, bLen, bAbs, bInt, bTup, bLst, bGcd, opIsa, opIsaLT, isa, opNeg, opAdd, opSub_a, opMul_a, opDiv_a, opMod_a, opLt_a, opLe_a, opGt_a, opGe_a, opI, opJ, ycs, opIs, opNis, isP, isNon, List.map_cons, List.map_nil, List.length_cons, List.length_nil, List.cons_append, List.nil_append, Bool.not_true, Bool.not_false, Bool.or_true, Bool.true_or, Bool.or_false, Bool.false_or, Nat.zero_add, Nat.reduceAdd, Int.cast_ofNat_Int, beq_self_eq_true, eq_self, i3])]
  rw [sSeq_nx (A1 := [s0, .fz (.lst (l.map D.int)), .ow (.lst [fr a, fr b, fr c]), .fz (fr a), .fz (fr b), .un, .un, .un, .un, .un, .un, .un, .un, .un, .un, .un]) (by simp only [mkF, outF, inA, sSeq, sNil, sIf, sRet, vRet, sExpr, sAsg, putV, putV0, sget, sset, eVar, eC, aNil, aCons, hold, settle, settleL, cont, contL, eTup, eLst, eB, eOp, eU, noX, eRes, mkV, tst, vTst, tNt, tAn, tOrr, eIf, eAn, eOr, eNot, eCall, sPar_a, sPar3_a, sParW, put2, put3, sAsgT, gTpl, gsCons, gsNil, gNm, sRaise, bLen, bAbs, bInt, bTup, bLst, bGcd, opIsa, opIsaLT, isa, opNeg, opAdd, opSub_a, opMul_a, opDiv_a, opMod_a, opLt_a, opLe_a, opGt_a, opGe_a, opI, opJ, ycs, opIs, opNis, isP, isNon, List.map_cons, List.map_nil, List.length_cons, List.length_nil, List.cons_append, List.nil_append, Bool.not_true, Bool.not_false, Bool.or_true, Bool.true_or, Bool.or_false, Bool.false_or, Nat.zero_add, Nat.reduceAdd, Int.cast_ofNat_Int, beq_self_eq_true, eq_self, i3])]
  rw [sSeq_nx (A1 := [s0, .fz (.lst (l.map D.int)), .ow (.lst [fr a, fr b, fr c]), .fz (fr a), .fz (fr b), .fz (fr c), .un, .un, .un, .un, .un, .un, .un, .un, .un, .un]) (by simp only [mkF, outF, inA, sSeq, sNil, sIf, sRet, vRet, sExpr, sAsg, putV, putV0, sget, sset, eVar, eC, aNil, aCons, hold, settle, settleL, cont, contL, eTup, eLst, eB, eOp, eU, noX, eRes, mkV, tst, vTst, tNt, tAn, tOrr, eIf, eAn, eOr, eNot, eCall, sPar_a, sPar3_a, sParW, put2, put3, sAsgT, gTpl, gsCons, gsNil, gNm, sRaise, bLen, bAbs, bInt, bTup, bLst, bGcd, opIsa, opIsaLT, isa, opNeg, opAdd, opSub_a, opMul_a, opDiv_a, opMod_a, opLt_a, opLe_a, opGt_a, opGe_a, opI, opJ, ycs, opIs, opNis, isP, isNon, List.map_cons, List.map_nil, List.length_cons, List.length_nil, List.cons_append, List.nil_append, Bool.not_true, Bool.not_false, Bool.or_true, Bool.true_or, Bool.or_false, Bool.false_or, Nat.zero_add, Nat.reduceAdd, Int.cast_ofNat_Int, beq_self_eq_true, eq_self, i3])]
  rw [sSeq_nx (A1 := [s0, .fz (.lst (l.map D.int)), .fz (.lst [fr a, fr b, fr c]), .fz (fr a), .fz (fr b), .fz (fr c), .ow (.lst [d1, d2, d3]), .un, .un, .un, .un, .un, .un, .un, .un, .un]) (by simp only [mkF, outF, inA, sSeq, sNil, sIf, sRet, vRet, sExpr, sAsg, putV, putV0, sget, sset, eVar, eC, aNil, aCons, hold, settle, settleL, cont, contL, eTup, eLst, eB, eOp, eU, noX, eRes, mkV, tst, vTst, tNt, tAn, tOrr, eIf, eAn, eOr, eNot, eCall, sPar_a, sPar3_a, sParW, put2, put3, sAsgT, gTpl, gsCons, gsNil, gNm, sRaise, bLen, bAbs, bInt, bTup, bLst, bGcd, opIsa, opIsaLT, isa, opNeg, opAdd, opSub_a, opMul_a, opDiv_a, opMod_a, opLt_a, opLe_a, opGt_a, opGe_a, opI, opJ, ycs, opIs, opNis, isP, isNon, List.map_cons, List.map_nil, List.length_cons, List.length_nil, List.cons_append, List.nil_append, Bool.not_true, Bool.not_false, Bool.or_true, Bool.true_or, Bool.or_false, Bool.false_or, Nat.zero_add, Nat.reduceAdd, Int.cast_ofNat_Int, beq_self_eq_true, eq_self, e6])]
  rw [sSeq_nx (A1 := [s0, .fz (.lst (l.map D.int)), .fz (.lst [fr a, fr b, fr c]), .fz (fr a), .fz (fr b), .fz (fr c), .ow (.lst [d1, d2, d3]), .fz (.tup [fr X, fr Y, fr Z]), .un, .un, .un, .un, .un, .un, .un, .un]) (by simp only [mkF, outF, inA, sSeq, sNil, sIf, sRet, vRet, sExpr, sAsg, putV, putV0, sget, sset, eVar, eC, aNil, aCons, hold, settle, settleL, cont, contL, eTup, eLst, eB, eOp, eU, noX, eRes, mkV, tst, vTst, tNt, tAn, tOrr, eIf, eAn, eOr, eNot, eCall, sPar_a, sPar3_a, sParW, put2, put3, sAsgT, gTpl, gsCons, gsNil, gNm, sRaise, bLen, bAbs, bInt, bTup, bLst, bGcd, opIsa, opIsaLT, isa, opNeg, opAdd, opSub_a, opMul_a, opDiv_a, opMod_a, opLt_a, opLe_a, opGt_a, opGe_a, opI, opJ, ycs, opIs, opNis, isP, isNon, List.map_cons, List.map_nil, List.length_cons, List.length_nil, List.cons_append, List.nil_append, Bool.not_true, Bool.not_false, Bool.or_true, Bool.true_or, Bool.or_false, Bool.false_or, Nat.zero_add, Nat.reduceAdd, Int.cast_ofNat_Int, beq_self_eq_true, eq_self, e7])]
  rw [sSeq_nx (A1 := [s0, .fz (.lst (l.map D.int)), .fz (.lst [fr a, fr b, fr c]), .fz (fr a), .fz (fr b), .fz (fr c), .ow (.lst [d1, d2, d3]), .fz (.tup [fr X, fr Y, fr Z]), .un, .un, .un, .un, .un, .un, .un, .un]) (by simp only [mkF, outF, inA, sSeq, sNil, sIf, sRet, vRet, sExpr, sAsg, putV, putV0, sget, sset, eVar, eC, aNil, aCons, hold, settle, settleL, cont, contL, eTup, eLst, eB, eOp, eU, noX, eRes, mkV, tst, vTst, tNt, tAn, tOrr, eIf, eAn, eOr, eNot, eCall, sPar_a, sPar3_a, sParW, put2, put3, sAsgT, gTpl, gsCons, gsNil, gNm, sRaise, bLen, bAbs, bInt, bTup, bLst, bGcd, opIsa, opIsaLT, isa, opNeg, opAdd, opSub_a, opMul_a, opDiv_a, opMod_a, opLt_a, opLe_a, opGt_a, opGe_a, opI, opJ, ycs, opIs, opNis, isP, isNon, List.map_cons, List.map_nil, List.length_cons, List.length_nil, List.cons_append, List.nil_append, Bool.not_true, Bool.not_false, Bool.or_true, Bool.true_or, Bool.or_false, Bool.false_or, Nat.zero_add, Nat.reduceAdd, Int.cast_ofNat_Int, beq_self_eq_true, eq_self, i3, tr1, tr2, ne_three])]
  rw [sSeq_nx (A1 := [s0, .fz (.lst (l.map D.int)), .fz (.lst [fr a, fr b, fr c]), .fz (fr a), .fz (fr b), .fz (fr c), .ow (.lst [d1, d2, d3]), .fz (.tup [fr X, fr Y, fr Z]), .fz (.bl ov), .un, .un, .un, .un, .un, .un, .un]) (by rw [← ho]; cases x1 <;> cases x2 <;> cases x3 <;> simp only [mkF, outF, inA, sSeq, sNil, sIf, sRet, vRet, sExpr, sAsg, putV, putV0, sget, sset, eVar, eC, aNil, aCons, hold, settle, settleL, cont, contL, eTup, eLst, eB, eOp, eU, noX, eRes, mkV, tst, vTst, tNt, tAn, tOrr, eIf, eAn, eOr, eNot, eCall, sPar_a, sPar3_a, sParW, put2, put3, sAsgT, gTpl, gsCons, gsNil, gNm, sRaise, bLen, bAbs, bInt, bTup, bLst, bGcd, opIsa, opIsaLT, isa, opNeg, opAdd, opSub_a, opMul_a, opDiv_a, opMod_a, opLt_a, opLe_a, opGt_a, opGe_a, opI, opJ, ycs, opIs, opNis, isP, isNon, List.map_cons, List.map_nil, List.length_cons, List.length_nil, List.cons_append, List.nil_append, Bool.not_true, Bool.not_false, Bool.or_true, Bool.true_or, Bool.or_false, Bool.false_or, Nat.zero_add, Nat.reduceAdd, Int.cast_ofNat_Int, beq_self_eq_true, eq_self, p1, p2, p3', l1, l2, l3])]
  rw [sSeq_nx (A1 := [s0, .fz (.lst (l.map D.int)), .fz (.lst [fr a, fr b, fr c]), .fz (fr a), .fz (fr b), .fz (fr c), .ow (.lst [d1, d2, d3]), .fz (.tup [fr X, fr Y, fr Z]), .fz (.bl ov), .fz (.bl (!ov)), .un, .un, .un, .un, .un, .un]) (by simp only [mkF, outF, inA, sSeq, sNil, sIf, sRet, vRet, sExpr, sAsg, putV, putV0, sget, sset, eVar, eC, aNil, aCons, hold, settle, settleL, cont, contL, eTup, eLst, eB, eOp, eU, noX, eRes, mkV, tst, vTst, tNt, tAn, tOrr, eIf, eAn, eOr, eNot, eCall, sPar_a, sPar3_a, sParW, put2, put3, sAsgT, gTpl, gsCons, gsNil, gNm, sRaise, bLen, bAbs, bInt, bTup, bLst, bGcd, opIsa, opIsaLT, isa, opNeg, opAdd, opSub_a, opMul_a, opDiv_a, opMod_a, opLt_a, opLe_a, opGt_a, opGe_a, opI, opJ, ycs, opIs, opNis, isP, isNon, List.map_cons, List.map_nil, List.length_cons, List.length_nil, List.cons_append, List.nil_append, Bool.not_true, Bool.not_false, Bool.or_true, Bool.true_or, Bool.or_false, Bool.false_or, Nat.zero_add, Nat.reduceAdd, Int.cast_ofNat_Int, beq_self_eq_true, eq_self, i3, fw])]
  rw [sSeq_nx (A1 := [s0, .fz (.lst (l.map D.int)), .fz (.lst [fr a, fr b, fr c]), .fz (fr a), .fz (fr b), .fz (fr c), .ow (.lst [d1, d2, d3]), .fz (.tup [fr X, fr Y, fr Z]), .fz (.bl ov), .fz (.bl (!ov)), .un, .un, .un, .un, .un, .un]) (by cases ov <;> simp only [mkF, outF, inA, sSeq, sNil, sIf, sRet, vRet, sExpr, sAsg, putV, putV0, sget, sset, eVar, eC, aNil, aCons, hold, settle, settleL, cont, contL, eTup, eLst, eB, eOp, eU, noX, eRes, mkV, tst, vTst, tNt, tAn, tOrr, eIf, eAn, eOr, eNot, eCall, sPar_a, sPar3_a, sParW, put2, put3, sAsgT, gTpl, gsCons, gsNil, gNm, sRaise, bLen, bAbs, bInt, bTup, bLst, bGcd, opIsa, opIsaLT, isa, opNeg, opAdd, opSub_a, opMul_a, opDiv_a, opMod_a, opLt_a, opLe_a, opGt_a, opGe_a, opI, opJ, ycs, opIs, opNis, isP, isNon, List.map_cons, List.map_nil, List.length_cons, List.length_nil, List.cons_append, List.nil_append, Bool.not_true, Bool.not_false, Bool.or_true, Bool.true_or, Bool.or_false, Bool.false_or, Nat.zero_add, Nat.reduceAdd, Int.cast_ofNat_Int, beq_self_eq_true, eq_self, decide_true])]
  rw [sSeq_nx (A1 := [s0, .fz (.lst (l.map D.int)), .fz (.lst [fr a, fr b, fr c]), .fz (fr a), .fz (fr b), .fz (fr c), .ow (.lst [d1, d2, d3]), .fz (.tup [fr X, fr Y, fr Z]), .fz (.bl ov), .fz (.bl (!ov)), .un, .un, .un, .un, .un, .un]) (by cases ov <;> simp only [mkF, outF, inA, sSeq, sNil, sIf, sRet, vRet, sExpr, sAsg, putV, putV0, sget, sset, eVar, eC, aNil, aCons, hold, settle, settleL, cont, contL, eTup, eLst, eB, eOp, eU, noX, eRes, mkV, tst, vTst, tNt, tAn, tOrr, eIf, eAn, eOr, eNot, eCall, sPar_a, sPar3_a, sParW, put2, put3, sAsgT, gTpl, gsCons, gsNil, gNm, sRaise, bLen, bAbs, bInt, bTup, bLst, bGcd, opIsa, opIsaLT, isa, opNeg, opAdd, opSub_a, opMul_a, opDiv_a, opMod_a, opLt_a, opLe_a, opGt_a, opGe_a, opI, opJ, ycs, opIs, opNis, isP, isNon, List.map_cons, List.map_nil, List.length_cons, List.length_nil, List.cons_append, List.nil_append, Bool.not_true, Bool.not_false, Bool.or_true, Bool.true_or, Bool.or_false, Bool.false_or, Nat.zero_add, Nat.reduceAdd, Int.cast_ofNat_Int, beq_self_eq_true, eq_self, decide_true])]
  rw [sSeq_nx (A1 := [s0, .fz (.lst (l.map D.int)), .fz (.lst [fr a, fr b, fr c]), .fz (fr a), .fz (fr b), .fz (fr c), .ow (.lst [d1, d2, d3]), .fz (.tup [fr X, fr Y, fr Z]), .fz (.bl ov), .fz (.bl (!ov)), .un, .un, .un, .un, .un, .un]) (by simp only [mkF, outF, inA, sSeq, sNil, sIf, sRet, vRet, sExpr, sAsg, putV, putV0, sget, sset, eVar, eC, aNil, aCons, hold, settle, settleL, cont, contL, eTup, eLst, eB, eOp, eU, noX, eRes, mkV, tst, vTst, tNt, tAn, tOrr, eIf, eAn, eOr, eNot, eCall, sPar_a, sPar3_a, sParW, put2, put3, sAsgT, gTpl, gsCons, gsNil, gNm, sRaise, bLen, bAbs, bInt, bTup, bLst, bGcd, opIsa, opIsaLT, isa, opNeg, opAdd, opSub_a, opMul_a, opDiv_a, opMod_a, opLt_a, opLe_a, opGt_a, opGe_a, opI, opJ, ycs, opIs, opNis, isP, isNon, List.map_cons, List.map_nil, List.length_cons, List.length_nil, List.cons_append, List.nil_append, Bool.not_true, Bool.not_false, Bool.or_true, Bool.true_or, Bool.or_false, Bool.false_or, Nat.zero_add, Nat.reduceAdd, Int.cast_ofNat_Int, beq_self_eq_true, eq_self, j3, cr, ne0])]
  have mid : ∃ s10 : Sl, (sIf (tAn (tNt (tst (eVar 8))) (tAn (tst (eOp opEq (eOp opIx (eVar 3) (eC (.int 1))) (eC (.int 1)))) (tAn (tst (eOp opEq (eOp opIx (eVar 4) (eC (.int 1))) (eC (.int 1)))) (tst (eOp opEq (eOp opIx (eVar 5) (eC (.int 1))) (eC (.int 1))))))) (sSeq (sAsg 10 (eCall F__law_whole (aCons (eOp opIx (eVar 3) (eC (.int 0))) (aCons (eOp opIx (eVar 4) (eC (.int 0))) (aCons (eOp opIx (eVar 5) (eC (.int 0))) aNil)))))
    (sIf (tOrr (tst (eOp opLt (eB bMin (aCons (eVar 10) aNil)) (eC (.int 0)))) (tst (eOp opNe (eCall F_cut_rates (aCons (eC (.int 3)) (aCons (eVar 10) aNil))) (eTup (aCons (eVar 5) (aCons (eVar 4) (aCons (eVar 3) aNil))))))) (sRet (eC (.bl false))) sNil)) sNil)
      [s0, .fz (.lst (l.map D.int)), .fz (.lst [fr a, fr b, fr c]), .fz (fr a), .fz (fr b), .fz (fr c), .ow (.lst [d1, d2, d3]), .fz (.tup [fr X, fr Y, fr Z]), .fz (.bl ov), .fz (.bl (!ov)), .un, .un, .un, .un, .un, .un] = .nx [s0, .fz (.lst (l.map D.int)), .fz (.lst [fr a, fr b, fr c]), .fz (fr a), .fz (fr b), .fz (fr c), .ow (.lst [d1, d2, d3]), .fz (.tup [fr X, fr Y, fr Z]), .fz (.bl ov), .fz (.bl (!ov)), s10, .un, .un, .un, .un, .un] := by
    cases ov with
    | true => exact ⟨.un, by simp only [mkF, outF, inA, sSeq, sNil, sIf, sRet, vRet, sExpr, sAsg, putV, putV0, sget, sset, eVar, eC, aNil, aCons, hold, settle, settleL, cont, contL, eTup, eLst, eB, eOp, eU, noX, eRes, mkV, tst, vTst, tNt, tAn, tOrr, eIf, eAn, eOr, eNot, eCall, sPar_a, sPar3_a, sParW, put2, put3, sAsgT, gTpl, gsCons, gsNil, gNm, sRaise, bLen, bAbs, bInt, bTup, bLst, bGcd, opIsa, opIsaLT, isa, opNeg, opAdd, opSub_a, opMul_a, opDiv_a, opMod_a, opLt_a, opLe_a, opGt_a, opGe_a, opI, opJ, ycs, opIs, opNis, isP, isNon, List.map_cons, List.map_nil, List.length_cons, List.length_nil, List.cons_append, List.nil_append, Bool.not_true, Bool.not_false, Bool.or_true, Bool.true_or, Bool.or_false, Bool.false_or, Nat.zero_add, Nat.reduceAdd, Int.cast_ofNat_Int, beq_self_eq_true, eq_self]⟩
    | false =>
      obtain ⟨n1, n2, n3⟩ := nov rfl
      by_cases ha : a.den = 1
      · have ca : (((a.den : Nat) : Int) == 1) = true := by rw [ha]; rfl
        by_cases hb : b.den = 1
        · have cb : (((b.den : Nat) : Int) == 1) = true := by rw [hb]; rfl
          by_cases hc : c.den = 1
          · have cc : (((c.den : Nat) : Int) == 1) = true := by rw [hc]; rfl
            obtain ⟨row, v, k1, k2, k3, k4⟩ := whole_ok ha hb hc za zb zc (by decide) n1 n2 n3
            have c1 : decide (v < 0) = false := decide_eq_false (by omega)
            exact ⟨.fz row, by simp only [mkF, outF, inA, sSeq, sNil, sIf, sRet, vRet, sExpr, sAsg, putV, putV0, sget, sset, eVar, eC, aNil, aCons, hold, settle, settleL, cont, contL, eTup, eLst, eB, eOp, eU, noX, eRes, mkV, tst, vTst, tNt, tAn, tOrr, eIf, eAn, eOr, eNot, eCall, sPar_a, sPar3_a, sParW, put2, put3, sAsgT, gTpl, gsCons, gsNil, gNm, sRaise, bLen, bAbs, bInt, bTup, bLst, bGcd, opIsa, opIsaLT, isa, opNeg, opAdd, opSub_a, opMul_a, opDiv_a, opMod_a, opLt_a, opLe_a, opGt_a, opGe_a, opI, opJ, ycs, opIs, opNis, isP, isNon, List.map_cons, List.map_nil, List.length_cons, List.length_nil, List.cons_append, List.nil_append, Bool.not_true, Bool.not_false, Bool.or_true, Bool.true_or, Bool.or_false, Bool.false_or, Nat.zero_add, Nat.reduceAdd, Int.cast_ofNat_Int, beq_self_eq_true, eq_self, iq, opEq, eqP_int, ca, cb, cc, k1, k2, k4, c1, ne0]⟩
          · have cc : (((c.den : Nat) : Int) == 1) = false := beq_eq_false_iff_ne.mpr (by omega)
            exact ⟨.un, by simp only [mkF, outF, inA, sSeq, sNil, sIf, sRet, vRet, sExpr, sAsg, putV, putV0, sget, sset, eVar, eC, aNil, aCons, hold, settle, settleL, cont, contL, eTup, eLst, eB, eOp, eU, noX, eRes, mkV, tst, vTst, tNt, tAn, tOrr, eIf, eAn, eOr, eNot, eCall, sPar_a, sPar3_a, sParW, put2, put3, sAsgT, gTpl, gsCons, gsNil, gNm, sRaise, bLen, bAbs, bInt, bTup, bLst, bGcd, opIsa, opIsaLT, isa, opNeg, opAdd, opSub_a, opMul_a, opDiv_a, opMod_a, opLt_a, opLe_a, opGt_a, opGe_a, opI, opJ, ycs, opIs, opNis, isP, isNon, List.map_cons, List.map_nil, List.length_cons, List.length_nil, List.cons_append, List.nil_append, Bool.not_true, Bool.not_false, Bool.or_true, Bool.true_or, Bool.or_false, Bool.false_or, Nat.zero_add, Nat.reduceAdd, Int.cast_ofNat_Int, beq_self_eq_true, eq_self, iq, opEq, eqP_int, ca, cb, cc]⟩
        · have cb : (((b.den : Nat) : Int) == 1) = false := beq_eq_false_iff_ne.mpr (by omega)
          exact ⟨.un, by simp only [mkF, outF, inA, sSeq, sNil, sIf, sRet, vRet, sExpr, sAsg, putV, putV0, sget, sset, eVar, eC, aNil, aCons, hold, settle, settleL, cont, contL, eTup, eLst, eB, eOp, eU, noX, eRes, mkV, tst, vTst, tNt, tAn, tOrr, eIf, eAn, eOr, eNot, eCall, sPar_a, sPar3_a, sParW, put2, put3, sAsgT, gTpl, gsCons, gsNil, gNm, sRaise, bLen, bAbs, bInt, bTup, bLst, bGcd, opIsa, opIsaLT, isa, opNeg, opAdd, opSub_a, opMul_a, opDiv_a, opMod_a, opLt_a, opLe_a, opGt_a, opGe_a, opI, opJ, ycs, opIs, opNis, isP, isNon, List.map_cons, List.map_nil, List.length_cons, List.length_nil, List.cons_append, List.nil_append, Bool.not_true, Bool.not_false, Bool.or_true, Bool.true_or, Bool.or_false, Bool.false_or, Nat.zero_add, Nat.reduceAdd, Int.cast_ofNat_Int, beq_self_eq_true, eq_self, iq, opEq, eqP_int, ca, cb]⟩
      · have ca : (((a.den : Nat) : Int) == 1) = false := beq_eq_false_iff_ne.mpr (by omega)
        exact ⟨.un, by simp only [mkF, outF, inA, sSeq, sNil, sIf, sRet, vRet, sExpr, sAsg, putV, putV0, sget, sset, eVar, eC, aNil, aCons, hold, settle, settleL, cont, contL, eTup, eLst, eB, eOp, eU, noX, eRes, mkV, tst, vTst, tNt, tAn, tOrr, eIf, eAn, eOr, eNot, eCall, sPar_a, sPar3_a, sParW, put2, put3, sAsgT, gTpl, gsCons, gsNil, gNm, sRaise, bLen, bAbs, bInt, bTup, bLst, bGcd, opIsa, opIsaLT, isa, opNeg, opAdd, opSub_a, opMul_a, opDiv_a, opMod_a, opLt_a, opLe_a, opGt_a, opGe_a, opI, opJ, ycs, opIs, opNis, isP, isNon, List.map_cons, List.map_nil, List.length_cons, List.length_nil, List.cons_append, List.nil_append, Bool.not_true, Bool.not_false, Bool.or_true, Bool.true_or, Bool.or_false, Bool.false_or, Nat.zero_add, Nat.reduceAdd, Int.cast_ofNat_Int, beq_self_eq_true, eq_self, iq, opEq, eqP_int, ca]⟩
  obtain ⟨s10, mid⟩ := mid
  rw [sSeq_nx mid]
  have ad0 : opAdd (.lst [fr f0, fr f1, fr f2, fr f3]) (.lst [.int 0]) = .ok (.lst [fr f0, fr f1, fr f2, fr f3, .int 0]) true := rfl
  have ad1 : opAdd (.lst [fr f0, fr f1, fr f2, fr f3]) (.lst [.tup [.int 0, .int 1]]) = .ok (.lst [fr f0, fr f1, fr f2, fr f3, fr 0]) true := rfl
  rw [sSeq_nx (A1 := [s0, .fz (.lst (l.map D.int)), .fz (.lst [fr a, fr b, fr c]), .fz (fr a), .fz (fr b), .fz (fr c), .ow (.lst [d1, d2, d3]), .fz (.tup [fr X, fr Y, fr Z]), .fz (.bl ov), .fz (.bl (!ov)), s10, .ow (.lst [fr f0, fr f1, fr f2, fr f3]), .un, .un, .un, .un]) (by unfold sAsg; rw [fr4]; rfl)]
  rw [sSeq_nx (A1 := [s0, .fz (.lst (l.map D.int)), .fz (.lst [fr a, fr b, fr c]), .fz (fr a), .fz (fr b), .fz (fr c), .ow (.lst [d1, d2, d3]), .fz (.tup [fr X, fr Y, fr Z]), .fz (.bl ov), .fz (.bl (!ov)), s10, .ow (.lst [fr f0, fr f1, fr f2, fr f3]), .fz (.tup [fr E1, fr E2, fr E3]), .un, .un, .un]) (by simp only [mkF, outF, inA, sSeq, sNil, sIf, sRet, vRet, sExpr, sAsg, putV, putV0, sget, sset, eVar, eC, aNil, aCons, hold, settle, settleL, cont, contL, eTup, eLst, eB, eOp, eU, noX, eRes, mkV, tst, vTst, tNt, tAn, tOrr, eIf, eAn, eOr, eNot, eCall, sPar_a, sPar3_a, sParW, put2, put3, sAsgT, gTpl, gsCons, gsNil, gNm, sRaise, bLen, bAbs, bInt, bTup, bLst, bGcd, opIsa, opIsaLT, isa, opNeg, opSub_a, opMul_a, opDiv_a, opMod_a, opLt_a, opLe_a, opGt_a, opGe_a, opI, opJ, ycs, opIs, opNis, isP, isNon, List.map_cons, List.map_nil, List.length_cons, List.length_nil, List.cons_append, List.nil_append, Bool.not_true, Bool.not_false, Bool.or_true, Bool.true_or, Bool.or_false, Bool.false_or, Nat.zero_add, Nat.reduceAdd, Int.cast_ofNat_Int, beq_self_eq_true, eq_self, ad0, ex])]
  rw [sSeq_nx (A1 := [s0, .fz (.lst (l.map D.int)), .fz (.lst [fr a, fr b, fr c]), .fz (fr a), .fz (fr b), .fz (fr c), .ow (.lst [d1, d2, d3]), .fz (.tup [fr X, fr Y, fr Z]), .fz (.bl ov), .fz (.bl (!ov)), s10, .ow (.lst [fr f0, fr f1, fr f2, fr f3]), .fz (.tup [fr E1, fr E2, fr E3]), .un, .un, .un]) (by simp only [mkF, outF, inA, sSeq, sNil, sIf, sRet, vRet, sExpr, sAsg, putV, putV0, sget, sset, eVar, eC, aNil, aCons, hold, settle, settleL, cont, contL, eTup, eLst, eB, eOp, eU, noX, eRes, mkV, tst, vTst, tNt, tAn, tOrr, eIf, eAn, eOr, eNot, eCall, sPar_a, sPar3_a, sParW, put2, put3, sAsgT, gTpl, gsCons, gsNil, gNm, sRaise, bLen, bAbs, bInt, bTup, bLst, bGcd, opIsa, opIsaLT, isa, opNeg, opSub_a, opMul_a, opDiv_a, opMod_a, opLt_a, opLe_a, opGt_a, opGe_a, opI, opJ, ycs, opIs, opNis, isP, isNon, List.map_cons, List.map_nil, List.length_cons, List.length_nil, List.cons_append, List.nil_append, Bool.not_true, Bool.not_false, Bool.or_true, Bool.true_or, Bool.or_false, Bool.false_or, Nat.zero_add, Nat.reduceAdd, Int.cast_ofNat_Int, beq_self_eq_true, eq_self, sFor, forL, fin, unlk, iSq, srcOf, seqD, iZp, zipD, iEn, enuD, eLc, lcL, unA, backA, quietA, tYs, eNx, iNx, Sl.isOwn, Bool.and_true, Bool.true_and, Bool.and_self, decide_true, Int.reduceAdd, Nat.reduceLeDiff, Nat.reduceLT, decide_false, e_lcuts3, ad1, lv1, lv2, lv3, nex])]
  rw [sSeq_nx (A1 := [s0, .fz (.lst (l.map D.int)), .fz (.lst [fr a, fr b, fr c]), .fz (fr a), .fz (fr b), .fz (fr c), .ow (.lst [d1, d2, d3]), .fz (.tup [fr X, fr Y, fr Z]), .fz (.bl ov), .fz (.bl (!ov)), s10, .ow (.lst [fr f0, fr f1, fr f2, fr f3]), .fz (.tup [fr E1, fr E2, fr E3]), .un, .un, .un]) (by simp only [mkF, outF, inA, sSeq, sNil, sIf, sRet, vRet, sExpr, sAsg, putV, putV0, sget, sset, eVar, eC, aNil, aCons, hold, settle, settleL, cont, contL, eTup, eLst, eB, eOp, eU, noX, eRes, mkV, tst, vTst, tNt, tAn, tOrr, eIf, eAn, eOr, eNot, eCall, sPar_a, sPar3_a, sParW, put2, put3, sAsgT, gTpl, gsCons, gsNil, gNm, sRaise, bLen, bAbs, bInt, bTup, bLst, bGcd, opIsa, opIsaLT, isa, opNeg, opAdd, opSub_a, opMul_a, opDiv_a, opMod_a, opLt_a, opLe_a, opGt_a, opGe_a, opI, opJ, ycs, opIs, opNis, isP, isNon, List.map_cons, List.map_nil, List.length_cons, List.length_nil, List.cons_append, List.nil_append, Bool.not_true, Bool.not_false, Bool.or_true, Bool.true_or, Bool.or_false, Bool.false_or, Nat.zero_add, Nat.reduceAdd, Int.cast_ofNat_Int, beq_self_eq_true, eq_self, j3, fx, Bool.and_self, decide_true])]
  rw [sSeq_nx (A1 := [s0, .fz (.lst (l.map D.int)), .fz (.lst [fr a, fr b, fr c]), .fz (fr a), .fz (fr b), .fz (fr c), .ow (.lst [d1, d2, d3]), .fz (.tup [fr X, fr Y, fr Z]), .fz (.bl ov), .fz (.bl (!ov)), s10, .ow (.lst [fr f0, fr f1, fr f2, fr f3]), .fz (.tup [fr E1, fr E2, fr E3]), .fz bad, .un, .un]) (by simp only [mkF, outF, inA, sSeq, sNil, sIf, sRet, vRet, sExpr, sAsg, putV, putV0, sget, sset, eVar, eC, aNil, aCons, hold, settle, settleL, cont, contL, eTup, eLst, eB, eOp, eU, noX, eRes, mkV, tst, vTst, tNt, tAn, tOrr, eIf, eAn, eOr, eNot, eCall, sPar_a, sPar3_a, sParW, put2, put3, sAsgT, gTpl, gsCons, gsNil, gNm, sRaise, bLen, bAbs, bInt, bTup, bLst, bGcd, opIsa, opIsaLT, isa, opNeg, opAdd, opSub_a, opMul_a, opDiv_a, opMod_a, opLt_a, opLe_a, opGt_a, opGe_a, opI, opJ, ycs, opIs, opNis, isP, isNon, List.map_cons, List.map_nil, List.length_cons, List.length_nil, List.cons_append, List.nil_append, Bool.not_true, Bool.not_false, Bool.or_true, Bool.true_or, Bool.or_false, Bool.false_or, Nat.zero_add, Nat.reduceAdd, Int.cast_ofNat_Int, beq_self_eq_true, eq_self, epb, ib])]
  have w1 : opNe (.str "first") (.str "first") = .ok (.bl false) false := ne_str (by decide +kernel) (by decide +kernel)
  have w2 : opNe (.str "second") (.str "second") = .ok (.bl false) false := ne_str (by decide +kernel) (by decide +kernel)
  have w3 : opEq (.str "third") (.str "third") = .ok (.bl true) false := eq_str (by decide +kernel) (by decide +kernel)
  rw [sSeq_nx (A1 := [s0, .fz (.lst (l.map D.int)), .fz (.lst [fr a, fr b, fr c]), .fz (fr a), .fz (fr b), .fz (fr c), .ow (.lst [d1, d2, d3]), .fz (.tup [fr X, fr Y, fr Z]), .fz (.bl ov), .fz (.bl (!ov)), s10, .ow (.lst [fr f0, fr f1, fr f2, fr f3]), .fz (.tup [fr E1, fr E2, fr E3]), .fz bad, .un, .un]) (by simp only [mkF, outF, inA, sSeq, sNil, sIf, sRet, vRet, sExpr, sAsg, putV, putV0, sget, sset, eVar, eC, aNil, aCons, hold, settle, settleL, cont, contL, eTup, eLst, eB, eOp, eU, noX, eRes, mkV, tst, vTst, tNt, tAn, tOrr, eIf, eAn, eOr, eNot, eCall, sPar_a, sPar3_a, sParW, put2, put3, sAsgT, gTpl, gsCons, gsNil, gNm, sRaise, bLen, bAbs, bInt, bTup, bLst, bGcd, opIsa, opIsaLT, isa, opNeg, opAdd, opSub_a, opMul_a, opDiv_a, opMod_a, opLt_a, opLe_a, opGt_a, opGe_a, opI, opJ, ycs, opIs, opNis, isP, isNon, List.map_cons, List.map_nil, List.length_cons, List.length_nil, List.cons_append, List.nil_append, Bool.not_true, Bool.not_false, Bool.or_true, Bool.true_or, Bool.or_false, Bool.false_or, Nat.zero_add, Nat.reduceAdd, Int.cast_ofNat_Int, beq_self_eq_true, eq_self, r1, r2, w1, w2])]
  simp only [mkF, outF, inA, sSeq, sNil, sIf, sRet, vRet, sExpr, sAsg, putV, putV0, sget, sset, eVar, eC, aNil, aCons, hold, settle, settleL, cont, contL, eTup, eLst, eB, eOp, eU, noX, eRes, mkV, tst, vTst, tNt, tAn, tOrr, eIf, eAn, eOr, eNot, eCall, sPar_a, sPar3_a, sParW, put2, put3, sAsgT, gTpl, gsCons, gsNil, gNm, sRaise, bLen, bAbs, bInt, bTup, bLst, bGcd, opIsa, opIsaLT, isa, opNeg, opAdd, opSub_a, opMul_a, opDiv_a, opMod_a, opLt_a, opLe_a, opGt_a, opGe_a, opI, opJ, ycs, opIs, opNis, isP, isNon, List.map_cons, List.map_nil, List.length_cons, List.length_nil, List.cons_append, List.nil_append, Bool.not_true, Bool.not_false, Bool.or_true, Bool.true_or, Bool.or_false, Bool.false_or, Nat.zero_add, Nat.reduceAdd, Int.cast_ofNat_Int, beq_self_eq_true, eq_self, r3, r4, w3]
end Lk54

namespace Lk54
open PySem PySem.Spec PyProof.Rows L2 MR
/-! ### the top -/
theorem all_mk {l : PySem.W.OpenLaw} {w : World} {K : PySem.W.Frag} {h : Heap} {mg : Str → Option Value} {fa : Addr} (X : K.In h) (G : h.Ns mainGlobals mg) (hfa : mg "law" = some (.ref fa))
    {f_whole_number : Addr} {od_whole_number an_whole_number : Option Addr} {sl_whole_number : Array (Option Value)} {oc_whole_number kV_whole_number dc_whole_number pm_whole_number cd_whole_number ct_whole_number : Value}
    {f_shared_divisor : Addr} {od_shared_divisor an_shared_divisor : Option Addr} {sl_shared_divisor : Array (Option Value)} {oc_shared_divisor kV_shared_divisor dc_shared_divisor pm_shared_divisor cd_shared_divisor ct_shared_divisor : Value}
    {f_is_amount : Addr} {od_is_amount an_is_amount : Option Addr} {sl_is_amount : Array (Option Value)} {oc_is_amount kV_is_amount dc_is_amount pm_is_amount cd_is_amount ct_is_amount : Value}
    {f_as_fraction : Addr} {od_as_fraction an_as_fraction : Option Addr} {sl_as_fraction : Array (Option Value)} {oc_as_fraction kV_as_fraction dc_as_fraction pm_as_fraction cd_as_fraction ct_as_fraction : Value}
    {f_checked_number : Addr} {od_checked_number an_checked_number : Option Addr} {sl_checked_number : Array (Option Value)} {oc_checked_number kV_checked_number dc_checked_number pm_checked_number cd_checked_number ct_checked_number : Value}
    {f_checked_amount : Addr} {od_checked_amount an_checked_amount : Option Addr} {sl_checked_amount : Array (Option Value)} {oc_checked_amount kV_checked_amount dc_checked_amount pm_checked_amount cd_checked_amount ct_checked_amount : Value}
    {f_reduced : Addr} {od_reduced an_reduced : Option Addr} {sl_reduced : Array (Option Value)} {oc_reduced kV_reduced dc_reduced pm_reduced cd_reduced ct_reduced : Value}
    {f_added : Addr} {od_added an_added : Option Addr} {sl_added : Array (Option Value)} {oc_added kV_added dc_added pm_added cd_added ct_added : Value}
    {f_taken : Addr} {od_taken an_taken : Option Addr} {sl_taken : Array (Option Value)} {oc_taken kV_taken dc_taken pm_taken cd_taken ct_taken : Value}
    {f_product_of : Addr} {od_product_of an_product_of : Option Addr} {sl_product_of : Array (Option Value)} {oc_product_of kV_product_of dc_product_of pm_product_of cd_product_of ct_product_of : Value}
    {f_total : Addr} {od_total an_total : Option Addr} {sl_total : Array (Option Value)} {oc_total kV_total dc_total pm_total cd_total ct_total : Value}
    {f_checked_size : Addr} {od_checked_size an_checked_size : Option Addr} {sl_checked_size : Array (Option Value)} {oc_checked_size kV_checked_size dc_checked_size pm_checked_size cd_checked_size ct_checked_size : Value}
    {f_is_finer : Addr} {od_is_finer an_is_finer : Option Addr} {sl_is_finer : Array (Option Value)} {oc_is_finer kV_is_finer dc_is_finer pm_is_finer cd_is_finer ct_is_finer : Value}
    {f_partings : Addr} {od_partings an_partings : Option Addr} {sl_partings : Array (Option Value)} {oc_partings kV_partings dc_partings pm_partings cd_partings ct_partings : Value}
    {f_checked_table : Addr} {od_checked_table an_checked_table : Option Addr} {sl_checked_table : Array (Option Value)} {oc_checked_table kV_checked_table dc_checked_table pm_checked_table cd_checked_table ct_checked_table : Value}
    {f_colour_row : Addr} {od_colour_row an_colour_row : Option Addr} {sl_colour_row : Array (Option Value)} {oc_colour_row kV_colour_row dc_colour_row pm_colour_row cd_colour_row ct_colour_row : Value}
    {f_exit_at : Addr} {od_exit_at an_exit_at : Option Addr} {sl_exit_at : Array (Option Value)} {oc_exit_at kV_exit_at dc_exit_at pm_exit_at cd_exit_at ct_exit_at : Value}
    {f_triangle : Addr} {od_triangle an_triangle : Option Addr} {sl_triangle : Array (Option Value)} {oc_triangle kV_triangle dc_triangle pm_triangle cd_triangle ct_triangle : Value}
    {f_from_triangle : Addr} {od_from_triangle an_from_triangle : Option Addr} {sl_from_triangle : Array (Option Value)} {oc_from_triangle kV_from_triangle dc_from_triangle pm_from_triangle cd_from_triangle ct_from_triangle : Value}
    {f_cuts : Addr} {od_cuts an_cuts : Option Addr} {sl_cuts : Array (Option Value)} {oc_cuts kV_cuts dc_cuts pm_cuts cd_cuts ct_cuts : Value}
    {f_cut_rates : Addr} {od_cut_rates an_cut_rates : Option Addr} {sl_cut_rates : Array (Option Value)} {oc_cut_rates kV_cut_rates dc_cut_rates pm_cut_rates cd_cut_rates ct_cut_rates : Value}
    {f__law_draws : Addr} {od__law_draws an__law_draws : Option Addr} {sl__law_draws : Array (Option Value)} {oc__law_draws kV__law_draws dc__law_draws pm__law_draws cd__law_draws ct__law_draws : Value}
    {f__law_pick : Addr} {od__law_pick an__law_pick : Option Addr} {sl__law_pick : Array (Option Value)} {oc__law_pick kV__law_pick dc__law_pick pm__law_pick cd__law_pick ct__law_pick : Value}
    {f__law_all : Addr} {od__law_all an__law_all : Option Addr} {sl__law_all : Array (Option Value)} {oc__law_all kV__law_all dc__law_all pm__law_all cd__law_all ct__law_all : Value}
    {f__law_many : Addr} {od__law_many an__law_many : Option Addr} {sl__law_many : Array (Option Value)} {oc__law_many kV__law_many dc__law_many pm__law_many cd__law_many ct__law_many : Value}
    {f__law_finer : Addr} {od__law_finer an__law_finer : Option Addr} {sl__law_finer : Array (Option Value)} {oc__law_finer kV__law_finer dc__law_finer pm__law_finer cd__law_finer ct__law_finer : Value}
    {f__law_gcd : Addr} {od__law_gcd an__law_gcd : Option Addr} {sl__law_gcd : Array (Option Value)} {oc__law_gcd kV__law_gcd dc__law_gcd pm__law_gcd cd__law_gcd ct__law_gcd : Value}
    {f__law_frac : Addr} {od__law_frac an__law_frac : Option Addr} {sl__law_frac : Array (Option Value)} {oc__law_frac kV__law_frac dc__law_frac pm__law_frac cd__law_frac ct__law_frac : Value}
    {f__law_plus : Addr} {od__law_plus an__law_plus : Option Addr} {sl__law_plus : Array (Option Value)} {oc__law_plus kV__law_plus dc__law_plus pm__law_plus cd__law_plus ct__law_plus : Value}
    {f__law_minus : Addr} {od__law_minus an__law_minus : Option Addr} {sl__law_minus : Array (Option Value)} {oc__law_minus kV__law_minus dc__law_minus pm__law_minus cd__law_minus ct__law_minus : Value}
    {f__law_times : Addr} {od__law_times an__law_times : Option Addr} {sl__law_times : Array (Option Value)} {oc__law_times kV__law_times dc__law_times pm__law_times cd__law_times ct__law_times : Value}
    {f__law_less : Addr} {od__law_less an__law_less : Option Addr} {sl__law_less : Array (Option Value)} {oc__law_less kV__law_less dc__law_less pm__law_less cd__law_less ct__law_less : Value}
    {f__law_handed : Addr} {od__law_handed an__law_handed : Option Addr} {sl__law_handed : Array (Option Value)} {oc__law_handed kV__law_handed dc__law_handed pm__law_handed cd__law_handed ct__law_handed : Value}
    {f__law_cuts : Addr} {od__law_cuts an__law_cuts : Option Addr} {sl__law_cuts : Array (Option Value)} {oc__law_cuts kV__law_cuts dc__law_cuts pm__law_cuts cd__law_cuts ct__law_cuts : Value}
    {f__law_leave : Addr} {od__law_leave an__law_leave : Option Addr} {sl__law_leave : Array (Option Value)} {oc__law_leave kV__law_leave dc__law_leave pm__law_leave cd__law_leave ct__law_leave : Value}
    {f__law_amounts : Addr} {od__law_amounts an__law_amounts : Option Addr} {sl__law_amounts : Array (Option Value)} {oc__law_amounts kV__law_amounts dc__law_amounts pm__law_amounts cd__law_amounts ct__law_amounts : Value}
    {f__law_weighed : Addr} {od__law_weighed an__law_weighed : Option Addr} {sl__law_weighed : Array (Option Value)} {oc__law_weighed kV__law_weighed dc__law_weighed pm__law_weighed cd__law_weighed ct__law_weighed : Value}
    {f__law_whole : Addr} {od__law_whole an__law_whole : Option Addr} {sl__law_whole : Array (Option Value)} {oc__law_whole kV__law_whole dc__law_whole pm__law_whole cd__law_whole ct__law_whole : Value}
    {f__law_refused : Addr} {od__law_refused an__law_refused : Option Addr} {sl__law_refused : Array (Option Value)} {oc__law_refused kV__law_refused dc__law_refused pm__law_refused cd__law_refused ct__law_refused : Value}
    {f_law : Addr} {od_law an_law : Option Addr} {sl_law : Array (Option Value)} {oc_law kV_law dc_law pm_law cd_law ct_law : Value}
    {C0 : Addr}
    {C1 : Addr}
    {nm1 q1 : Str} {N1 : Addr} {bs1 sub1 : List Value} {sn1 : List Str} {ab1 : Bool} {col1 : Option Bool} {dd1 : Option Addr} {m01 m11 m21 m31 m51 : Option Value}
    {fI1 : Addr} {odI1 anI1 : Option Addr} {slI1 : Array (Option Value)} {ocI1 kVI1 dcI1 pmI1 cdI1 ctI1 : Value}
    {C4 : Addr}
    {nm4 q4 : Str} {N4 : Addr} {bs4 sub4 : List Value} {sn4 : List Str} {ab4 : Bool} {col4 : Option Bool} {dd4 : Option Addr} {m04 m14 m24 m34 m54 : Option Value}
    {fI4 : Addr} {odI4 anI4 : Option Addr} {slI4 : Array (Option Value)} {ocI4 kVI4 dcI4 pmI4 cdI4 ctI4 : Value}
    (aC0 : PySem.W.nsIn K mainGlobals "MergeError" = some (some (.ref C0)))
    (aC1 : PySem.W.nsIn K mainGlobals "BadNumber" = some (some (.ref C1)))
    (aC4 : PySem.W.nsIn K mainGlobals "BadTable" = some (some (.ref C4)))
    (a_whole_number : PySem.W.nsIn K mainGlobals "whole_number" = some (some (.ref f_whole_number)))
    (l_whole_number : K.lookup f_whole_number = some ⟨oc_whole_number, od_whole_number, .func (PySem.W.fnOf "whole_number" "whole_number" (defArgs s_whole_number) (defBody s_whole_number) (defScope s_whole_number) .none kV_whole_number dc_whole_number pm_whole_number an_whole_number cd_whole_number ct_whole_number), sl_whole_number⟩)
    (c_whole_number : PySem.W.codeIn K cd_whole_number "whole_number" = true)
    (k_whole_number : PySem.W.keepIn K (.ref f_whole_number) = true)
    (a_shared_divisor : PySem.W.nsIn K mainGlobals "shared_divisor" = some (some (.ref f_shared_divisor)))
    (l_shared_divisor : K.lookup f_shared_divisor = some ⟨oc_shared_divisor, od_shared_divisor, .func (PySem.W.fnOf "shared_divisor" "shared_divisor" (defArgs s_shared_divisor) (defBody s_shared_divisor) (defScope s_shared_divisor) .none kV_shared_divisor dc_shared_divisor pm_shared_divisor an_shared_divisor cd_shared_divisor ct_shared_divisor), sl_shared_divisor⟩)
    (c_shared_divisor : PySem.W.codeIn K cd_shared_divisor "shared_divisor" = true)
    (k_shared_divisor : PySem.W.keepIn K (.ref f_shared_divisor) = true)
    (a_is_amount : PySem.W.nsIn K mainGlobals "is_amount" = some (some (.ref f_is_amount)))
    (l_is_amount : K.lookup f_is_amount = some ⟨oc_is_amount, od_is_amount, .func (PySem.W.fnOf "is_amount" "is_amount" (defArgs s_is_amount) (defBody s_is_amount) (defScope s_is_amount) .none kV_is_amount dc_is_amount pm_is_amount an_is_amount cd_is_amount ct_is_amount), sl_is_amount⟩)
    (c_is_amount : PySem.W.codeIn K cd_is_amount "is_amount" = true)
    (k_is_amount : PySem.W.keepIn K (.ref f_is_amount) = true)
    (a_as_fraction : PySem.W.nsIn K mainGlobals "as_fraction" = some (some (.ref f_as_fraction)))
    (l_as_fraction : K.lookup f_as_fraction = some ⟨oc_as_fraction, od_as_fraction, .func (PySem.W.fnOf "as_fraction" "as_fraction" (defArgs s_as_fraction) (defBody s_as_fraction) (defScope s_as_fraction) .none kV_as_fraction dc_as_fraction pm_as_fraction an_as_fraction cd_as_fraction ct_as_fraction), sl_as_fraction⟩)
    (c_as_fraction : PySem.W.codeIn K cd_as_fraction "as_fraction" = true)
    (k_as_fraction : PySem.W.keepIn K (.ref f_as_fraction) = true)
    (a_checked_number : PySem.W.nsIn K mainGlobals "checked_number" = some (some (.ref f_checked_number)))
    (l_checked_number : K.lookup f_checked_number = some ⟨oc_checked_number, od_checked_number, .func (PySem.W.fnOf "checked_number" "checked_number" (defArgs s_checked_number) (defBody s_checked_number) (defScope s_checked_number) .none kV_checked_number dc_checked_number pm_checked_number an_checked_number cd_checked_number ct_checked_number), sl_checked_number⟩)
    (c_checked_number : PySem.W.codeIn K cd_checked_number "checked_number" = true)
    (k_checked_number : PySem.W.keepIn K (.ref f_checked_number) = true)
    (a_checked_amount : PySem.W.nsIn K mainGlobals "checked_amount" = some (some (.ref f_checked_amount)))
    (l_checked_amount : K.lookup f_checked_amount = some ⟨oc_checked_amount, od_checked_amount, .func (PySem.W.fnOf "checked_amount" "checked_amount" (defArgs s_checked_amount) (defBody s_checked_amount) (defScope s_checked_amount) .none kV_checked_amount dc_checked_amount pm_checked_amount an_checked_amount cd_checked_amount ct_checked_amount), sl_checked_amount⟩)
    (c_checked_amount : PySem.W.codeIn K cd_checked_amount "checked_amount" = true)
    (k_checked_amount : PySem.W.keepIn K (.ref f_checked_amount) = true)
    (a_reduced : PySem.W.nsIn K mainGlobals "reduced" = some (some (.ref f_reduced)))
    (l_reduced : K.lookup f_reduced = some ⟨oc_reduced, od_reduced, .func (PySem.W.fnOf "reduced" "reduced" (defArgs s_reduced) (defBody s_reduced) (defScope s_reduced) .none kV_reduced dc_reduced pm_reduced an_reduced cd_reduced ct_reduced), sl_reduced⟩)
    (c_reduced : PySem.W.codeIn K cd_reduced "reduced" = true)
    (k_reduced : PySem.W.keepIn K (.ref f_reduced) = true)
    (a_added : PySem.W.nsIn K mainGlobals "added" = some (some (.ref f_added)))
    (l_added : K.lookup f_added = some ⟨oc_added, od_added, .func (PySem.W.fnOf "added" "added" (defArgs s_added) (defBody s_added) (defScope s_added) .none kV_added dc_added pm_added an_added cd_added ct_added), sl_added⟩)
    (c_added : PySem.W.codeIn K cd_added "added" = true)
    (k_added : PySem.W.keepIn K (.ref f_added) = true)
    (a_taken : PySem.W.nsIn K mainGlobals "taken" = some (some (.ref f_taken)))
    (l_taken : K.lookup f_taken = some ⟨oc_taken, od_taken, .func (PySem.W.fnOf "taken" "taken" (defArgs s_taken) (defBody s_taken) (defScope s_taken) .none kV_taken dc_taken pm_taken an_taken cd_taken ct_taken), sl_taken⟩)
    (c_taken : PySem.W.codeIn K cd_taken "taken" = true)
    (k_taken : PySem.W.keepIn K (.ref f_taken) = true)
    (a_product_of : PySem.W.nsIn K mainGlobals "product_of" = some (some (.ref f_product_of)))
    (l_product_of : K.lookup f_product_of = some ⟨oc_product_of, od_product_of, .func (PySem.W.fnOf "product_of" "product_of" (defArgs s_product_of) (defBody s_product_of) (defScope s_product_of) .none kV_product_of dc_product_of pm_product_of an_product_of cd_product_of ct_product_of), sl_product_of⟩)
    (c_product_of : PySem.W.codeIn K cd_product_of "product_of" = true)
    (k_product_of : PySem.W.keepIn K (.ref f_product_of) = true)
    (a_total : PySem.W.nsIn K mainGlobals "total" = some (some (.ref f_total)))
    (l_total : K.lookup f_total = some ⟨oc_total, od_total, .func (PySem.W.fnOf "total" "total" (defArgs s_total) (defBody s_total) (defScope s_total) .none kV_total dc_total pm_total an_total cd_total ct_total), sl_total⟩)
    (c_total : PySem.W.codeIn K cd_total "total" = true)
    (k_total : PySem.W.keepIn K (.ref f_total) = true)
    (a_checked_size : PySem.W.nsIn K mainGlobals "checked_size" = some (some (.ref f_checked_size)))
    (l_checked_size : K.lookup f_checked_size = some ⟨oc_checked_size, od_checked_size, .func (PySem.W.fnOf "checked_size" "checked_size" (defArgs s_checked_size) (defBody s_checked_size) (defScope s_checked_size) .none kV_checked_size dc_checked_size pm_checked_size an_checked_size cd_checked_size ct_checked_size), sl_checked_size⟩)
    (c_checked_size : PySem.W.codeIn K cd_checked_size "checked_size" = true)
    (k_checked_size : PySem.W.keepIn K (.ref f_checked_size) = true)
    (a_is_finer : PySem.W.nsIn K mainGlobals "is_finer" = some (some (.ref f_is_finer)))
    (l_is_finer : K.lookup f_is_finer = some ⟨oc_is_finer, od_is_finer, .func (PySem.W.fnOf "is_finer" "is_finer" (defArgs s_is_finer) (defBody s_is_finer) (defScope s_is_finer) .none kV_is_finer dc_is_finer pm_is_finer an_is_finer cd_is_finer ct_is_finer), sl_is_finer⟩)
    (c_is_finer : PySem.W.codeIn K cd_is_finer "is_finer" = true)
    (k_is_finer : PySem.W.keepIn K (.ref f_is_finer) = true)
    (a_partings : PySem.W.nsIn K mainGlobals "partings" = some (some (.ref f_partings)))
    (l_partings : K.lookup f_partings = some ⟨oc_partings, od_partings, .func (PySem.W.fnOf "partings" "partings" (defArgs s_partings) (defBody s_partings) (defScope s_partings) .none kV_partings dc_partings pm_partings an_partings cd_partings ct_partings), sl_partings⟩)
    (c_partings : PySem.W.codeIn K cd_partings "partings" = true)
    (k_partings : PySem.W.keepIn K (.ref f_partings) = true)
    (a_checked_table : PySem.W.nsIn K mainGlobals "checked_table" = some (some (.ref f_checked_table)))
    (l_checked_table : K.lookup f_checked_table = some ⟨oc_checked_table, od_checked_table, .func (PySem.W.fnOf "checked_table" "checked_table" (defArgs s_checked_table) (defBody s_checked_table) (defScope s_checked_table) .none kV_checked_table dc_checked_table pm_checked_table an_checked_table cd_checked_table ct_checked_table), sl_checked_table⟩)
    (c_checked_table : PySem.W.codeIn K cd_checked_table "checked_table" = true)
    (k_checked_table : PySem.W.keepIn K (.ref f_checked_table) = true)
    (a_colour_row : PySem.W.nsIn K mainGlobals "colour_row" = some (some (.ref f_colour_row)))
    (l_colour_row : K.lookup f_colour_row = some ⟨oc_colour_row, od_colour_row, .func (PySem.W.fnOf "colour_row" "colour_row" (defArgs s_colour_row) (defBody s_colour_row) (defScope s_colour_row) .none kV_colour_row dc_colour_row pm_colour_row an_colour_row cd_colour_row ct_colour_row), sl_colour_row⟩)
    (c_colour_row : PySem.W.codeIn K cd_colour_row "colour_row" = true)
    (k_colour_row : PySem.W.keepIn K (.ref f_colour_row) = true)
    (a_exit_at : PySem.W.nsIn K mainGlobals "exit_at" = some (some (.ref f_exit_at)))
    (l_exit_at : K.lookup f_exit_at = some ⟨oc_exit_at, od_exit_at, .func (PySem.W.fnOf "exit_at" "exit_at" (defArgs s_exit_at) (defBody s_exit_at) (defScope s_exit_at) .none kV_exit_at dc_exit_at pm_exit_at an_exit_at cd_exit_at ct_exit_at), sl_exit_at⟩)
    (c_exit_at : PySem.W.codeIn K cd_exit_at "exit_at" = true)
    (k_exit_at : PySem.W.keepIn K (.ref f_exit_at) = true)
    (a_triangle : PySem.W.nsIn K mainGlobals "triangle" = some (some (.ref f_triangle)))
    (l_triangle : K.lookup f_triangle = some ⟨oc_triangle, od_triangle, .func (PySem.W.fnOf "triangle" "triangle" (defArgs s_triangle) (defBody s_triangle) (defScope s_triangle) .none kV_triangle dc_triangle pm_triangle an_triangle cd_triangle ct_triangle), sl_triangle⟩)
    (c_triangle : PySem.W.codeIn K cd_triangle "triangle" = true)
    (k_triangle : PySem.W.keepIn K (.ref f_triangle) = true)
    (a_from_triangle : PySem.W.nsIn K mainGlobals "from_triangle" = some (some (.ref f_from_triangle)))
    (l_from_triangle : K.lookup f_from_triangle = some ⟨oc_from_triangle, od_from_triangle, .func (PySem.W.fnOf "from_triangle" "from_triangle" (defArgs s_from_triangle) (defBody s_from_triangle) (defScope s_from_triangle) .none kV_from_triangle dc_from_triangle pm_from_triangle an_from_triangle cd_from_triangle ct_from_triangle), sl_from_triangle⟩)
    (c_from_triangle : PySem.W.codeIn K cd_from_triangle "from_triangle" = true)
    (k_from_triangle : PySem.W.keepIn K (.ref f_from_triangle) = true)
    (a_cuts : PySem.W.nsIn K mainGlobals "cuts" = some (some (.ref f_cuts)))
    (l_cuts : K.lookup f_cuts = some ⟨oc_cuts, od_cuts, .func (PySem.W.fnOf "cuts" "cuts" (defArgs s_cuts) (defBody s_cuts) (defScope s_cuts) .none kV_cuts dc_cuts pm_cuts an_cuts cd_cuts ct_cuts), sl_cuts⟩)
    (c_cuts : PySem.W.codeIn K cd_cuts "cuts" = true)
    (k_cuts : PySem.W.keepIn K (.ref f_cuts) = true)
    (a_cut_rates : PySem.W.nsIn K mainGlobals "cut_rates" = some (some (.ref f_cut_rates)))
    (l_cut_rates : K.lookup f_cut_rates = some ⟨oc_cut_rates, od_cut_rates, .func (PySem.W.fnOf "cut_rates" "cut_rates" (defArgs s_cut_rates) (defBody s_cut_rates) (defScope s_cut_rates) .none kV_cut_rates dc_cut_rates pm_cut_rates an_cut_rates cd_cut_rates ct_cut_rates), sl_cut_rates⟩)
    (c_cut_rates : PySem.W.codeIn K cd_cut_rates "cut_rates" = true)
    (k_cut_rates : PySem.W.keepIn K (.ref f_cut_rates) = true)
    (a__law_draws : PySem.W.nsIn K mainGlobals "_law_draws" = some (some (.ref f__law_draws)))
    (l__law_draws : K.lookup f__law_draws = some ⟨oc__law_draws, od__law_draws, .func (PySem.W.fnOf "_law_draws" "_law_draws" (defArgs s__law_draws) (defBody s__law_draws) (defScope s__law_draws) .none kV__law_draws dc__law_draws pm__law_draws an__law_draws cd__law_draws ct__law_draws), sl__law_draws⟩)
    (c__law_draws : PySem.W.codeIn K cd__law_draws "_law_draws" = true)
    (k__law_draws : PySem.W.keepIn K (.ref f__law_draws) = true)
    (a__law_pick : PySem.W.nsIn K mainGlobals "_law_pick" = some (some (.ref f__law_pick)))
    (l__law_pick : K.lookup f__law_pick = some ⟨oc__law_pick, od__law_pick, .func (PySem.W.fnOf "_law_pick" "_law_pick" (defArgs s__law_pick) (defBody s__law_pick) (defScope s__law_pick) .none kV__law_pick dc__law_pick pm__law_pick an__law_pick cd__law_pick ct__law_pick), sl__law_pick⟩)
    (c__law_pick : PySem.W.codeIn K cd__law_pick "_law_pick" = true)
    (k__law_pick : PySem.W.keepIn K (.ref f__law_pick) = true)
    (a__law_all : PySem.W.nsIn K mainGlobals "_law_all" = some (some (.ref f__law_all)))
    (l__law_all : K.lookup f__law_all = some ⟨oc__law_all, od__law_all, .func (PySem.W.fnOf "_law_all" "_law_all" (defArgs s__law_all) (defBody s__law_all) (defScope s__law_all) .none kV__law_all dc__law_all pm__law_all an__law_all cd__law_all ct__law_all), sl__law_all⟩)
    (c__law_all : PySem.W.codeIn K cd__law_all "_law_all" = true)
    (k__law_all : PySem.W.keepIn K (.ref f__law_all) = true)
    (a__law_many : PySem.W.nsIn K mainGlobals "_law_many" = some (some (.ref f__law_many)))
    (l__law_many : K.lookup f__law_many = some ⟨oc__law_many, od__law_many, .func (PySem.W.fnOf "_law_many" "_law_many" (defArgs s__law_many) (defBody s__law_many) (defScope s__law_many) .none kV__law_many dc__law_many pm__law_many an__law_many cd__law_many ct__law_many), sl__law_many⟩)
    (c__law_many : PySem.W.codeIn K cd__law_many "_law_many" = true)
    (k__law_many : PySem.W.keepIn K (.ref f__law_many) = true)
    (a__law_finer : PySem.W.nsIn K mainGlobals "_law_finer" = some (some (.ref f__law_finer)))
    (l__law_finer : K.lookup f__law_finer = some ⟨oc__law_finer, od__law_finer, .func (PySem.W.fnOf "_law_finer" "_law_finer" (defArgs s__law_finer) (defBody s__law_finer) (defScope s__law_finer) .none kV__law_finer dc__law_finer pm__law_finer an__law_finer cd__law_finer ct__law_finer), sl__law_finer⟩)
    (c__law_finer : PySem.W.codeIn K cd__law_finer "_law_finer" = true)
    (k__law_finer : PySem.W.keepIn K (.ref f__law_finer) = true)
    (a__law_gcd : PySem.W.nsIn K mainGlobals "_law_gcd" = some (some (.ref f__law_gcd)))
    (l__law_gcd : K.lookup f__law_gcd = some ⟨oc__law_gcd, od__law_gcd, .func (PySem.W.fnOf "_law_gcd" "_law_gcd" (defArgs s__law_gcd) (defBody s__law_gcd) (defScope s__law_gcd) .none kV__law_gcd dc__law_gcd pm__law_gcd an__law_gcd cd__law_gcd ct__law_gcd), sl__law_gcd⟩)
    (c__law_gcd : PySem.W.codeIn K cd__law_gcd "_law_gcd" = true)
    (k__law_gcd : PySem.W.keepIn K (.ref f__law_gcd) = true)
    (a__law_frac : PySem.W.nsIn K mainGlobals "_law_frac" = some (some (.ref f__law_frac)))
    (l__law_frac : K.lookup f__law_frac = some ⟨oc__law_frac, od__law_frac, .func (PySem.W.fnOf "_law_frac" "_law_frac" (defArgs s__law_frac) (defBody s__law_frac) (defScope s__law_frac) .none kV__law_frac dc__law_frac pm__law_frac an__law_frac cd__law_frac ct__law_frac), sl__law_frac⟩)
    (c__law_frac : PySem.W.codeIn K cd__law_frac "_law_frac" = true)
    (k__law_frac : PySem.W.keepIn K (.ref f__law_frac) = true)
    (a__law_plus : PySem.W.nsIn K mainGlobals "_law_plus" = some (some (.ref f__law_plus)))
    (l__law_plus : K.lookup f__law_plus = some ⟨oc__law_plus, od__law_plus, .func (PySem.W.fnOf "_law_plus" "_law_plus" (defArgs s__law_plus) (defBody s__law_plus) (defScope s__law_plus) .none kV__law_plus dc__law_plus pm__law_plus an__law_plus cd__law_plus ct__law_plus), sl__law_plus⟩)
    (c__law_plus : PySem.W.codeIn K cd__law_plus "_law_plus" = true)
    (k__law_plus : PySem.W.keepIn K (.ref f__law_plus) = true)
    (a__law_minus : PySem.W.nsIn K mainGlobals "_law_minus" = some (some (.ref f__law_minus)))
    (l__law_minus : K.lookup f__law_minus = some ⟨oc__law_minus, od__law_minus, .func (PySem.W.fnOf "_law_minus" "_law_minus" (defArgs s__law_minus) (defBody s__law_minus) (defScope s__law_minus) .none kV__law_minus dc__law_minus pm__law_minus an__law_minus cd__law_minus ct__law_minus), sl__law_minus⟩)
    (c__law_minus : PySem.W.codeIn K cd__law_minus "_law_minus" = true)
    (k__law_minus : PySem.W.keepIn K (.ref f__law_minus) = true)
    (a__law_times : PySem.W.nsIn K mainGlobals "_law_times" = some (some (.ref f__law_times)))
    (l__law_times : K.lookup f__law_times = some ⟨oc__law_times, od__law_times, .func (PySem.W.fnOf "_law_times" "_law_times" (defArgs s__law_times) (defBody s__law_times) (defScope s__law_times) .none kV__law_times dc__law_times pm__law_times an__law_times cd__law_times ct__law_times), sl__law_times⟩)
    (c__law_times : PySem.W.codeIn K cd__law_times "_law_times" = true)
    (k__law_times : PySem.W.keepIn K (.ref f__law_times) = true)
    (a__law_less : PySem.W.nsIn K mainGlobals "_law_less" = some (some (.ref f__law_less)))
    (l__law_less : K.lookup f__law_less = some ⟨oc__law_less, od__law_less, .func (PySem.W.fnOf "_law_less" "_law_less" (defArgs s__law_less) (defBody s__law_less) (defScope s__law_less) .none kV__law_less dc__law_less pm__law_less an__law_less cd__law_less ct__law_less), sl__law_less⟩)
    (c__law_less : PySem.W.codeIn K cd__law_less "_law_less" = true)
    (k__law_less : PySem.W.keepIn K (.ref f__law_less) = true)
    (a__law_handed : PySem.W.nsIn K mainGlobals "_law_handed" = some (some (.ref f__law_handed)))
    (l__law_handed : K.lookup f__law_handed = some ⟨oc__law_handed, od__law_handed, .func (PySem.W.fnOf "_law_handed" "_law_handed" (defArgs s__law_handed) (defBody s__law_handed) (defScope s__law_handed) .none kV__law_handed dc__law_handed pm__law_handed an__law_handed cd__law_handed ct__law_handed), sl__law_handed⟩)
    (c__law_handed : PySem.W.codeIn K cd__law_handed "_law_handed" = true)
    (k__law_handed : PySem.W.keepIn K (.ref f__law_handed) = true)
    (a__law_cuts : PySem.W.nsIn K mainGlobals "_law_cuts" = some (some (.ref f__law_cuts)))
    (l__law_cuts : K.lookup f__law_cuts = some ⟨oc__law_cuts, od__law_cuts, .func (PySem.W.fnOf "_law_cuts" "_law_cuts" (defArgs s__law_cuts) (defBody s__law_cuts) (defScope s__law_cuts) .none kV__law_cuts dc__law_cuts pm__law_cuts an__law_cuts cd__law_cuts ct__law_cuts), sl__law_cuts⟩)
    (c__law_cuts : PySem.W.codeIn K cd__law_cuts "_law_cuts" = true)
    (k__law_cuts : PySem.W.keepIn K (.ref f__law_cuts) = true)
    (a__law_leave : PySem.W.nsIn K mainGlobals "_law_leave" = some (some (.ref f__law_leave)))
    (l__law_leave : K.lookup f__law_leave = some ⟨oc__law_leave, od__law_leave, .func (PySem.W.fnOf "_law_leave" "_law_leave" (defArgs s__law_leave) (defBody s__law_leave) (defScope s__law_leave) .none kV__law_leave dc__law_leave pm__law_leave an__law_leave cd__law_leave ct__law_leave), sl__law_leave⟩)
    (c__law_leave : PySem.W.codeIn K cd__law_leave "_law_leave" = true)
    (k__law_leave : PySem.W.keepIn K (.ref f__law_leave) = true)
    (a__law_amounts : PySem.W.nsIn K mainGlobals "_law_amounts" = some (some (.ref f__law_amounts)))
    (l__law_amounts : K.lookup f__law_amounts = some ⟨oc__law_amounts, od__law_amounts, .func (PySem.W.fnOf "_law_amounts" "_law_amounts" (defArgs s__law_amounts) (defBody s__law_amounts) (defScope s__law_amounts) .none kV__law_amounts dc__law_amounts pm__law_amounts an__law_amounts cd__law_amounts ct__law_amounts), sl__law_amounts⟩)
    (c__law_amounts : PySem.W.codeIn K cd__law_amounts "_law_amounts" = true)
    (k__law_amounts : PySem.W.keepIn K (.ref f__law_amounts) = true)
    (a__law_weighed : PySem.W.nsIn K mainGlobals "_law_weighed" = some (some (.ref f__law_weighed)))
    (l__law_weighed : K.lookup f__law_weighed = some ⟨oc__law_weighed, od__law_weighed, .func (PySem.W.fnOf "_law_weighed" "_law_weighed" (defArgs s__law_weighed) (defBody s__law_weighed) (defScope s__law_weighed) .none kV__law_weighed dc__law_weighed pm__law_weighed an__law_weighed cd__law_weighed ct__law_weighed), sl__law_weighed⟩)
    (c__law_weighed : PySem.W.codeIn K cd__law_weighed "_law_weighed" = true)
    (k__law_weighed : PySem.W.keepIn K (.ref f__law_weighed) = true)
    (a__law_whole : PySem.W.nsIn K mainGlobals "_law_whole" = some (some (.ref f__law_whole)))
    (l__law_whole : K.lookup f__law_whole = some ⟨oc__law_whole, od__law_whole, .func (PySem.W.fnOf "_law_whole" "_law_whole" (defArgs s__law_whole) (defBody s__law_whole) (defScope s__law_whole) .none kV__law_whole dc__law_whole pm__law_whole an__law_whole cd__law_whole ct__law_whole), sl__law_whole⟩)
    (c__law_whole : PySem.W.codeIn K cd__law_whole "_law_whole" = true)
    (k__law_whole : PySem.W.keepIn K (.ref f__law_whole) = true)
    (a__law_refused : PySem.W.nsIn K mainGlobals "_law_refused" = some (some (.ref f__law_refused)))
    (l__law_refused : K.lookup f__law_refused = some ⟨oc__law_refused, od__law_refused, .func (PySem.W.fnOf "_law_refused" "_law_refused" (defArgs s__law_refused) (defBody s__law_refused) (defScope s__law_refused) .none kV__law_refused dc__law_refused pm__law_refused an__law_refused cd__law_refused ct__law_refused), sl__law_refused⟩)
    (c__law_refused : PySem.W.codeIn K cd__law_refused "_law_refused" = true)
    (k__law_refused : PySem.W.keepIn K (.ref f__law_refused) = true)
    (a_law : PySem.W.nsIn K mainGlobals "law" = some (some (.ref f_law)))
    (l_law : K.lookup f_law = some ⟨oc_law, od_law, .func (PySem.W.fnOf "law" "law" (defArgs s_law) (defBody s_law) (defScope s_law) .none kV_law dc_law pm_law an_law cd_law ct_law), sl_law⟩)
    (c_law : PySem.W.codeIn K cd_law "law" = true)
    (k_law : PySem.W.keepIn K (.ref f_law) = true)
    (z_isinstance : PySem.W.nsIn K mainGlobals "isinstance" = some none)
    (z_int : PySem.W.nsIn K mainGlobals "int" = some none)
    (z_bool : PySem.W.nsIn K mainGlobals "bool" = some none)
    (z_abs : PySem.W.nsIn K mainGlobals "abs" = some none)
    (z_tuple : PySem.W.nsIn K mainGlobals "tuple" = some none)
    (z_len : PySem.W.nsIn K mainGlobals "len" = some none)
    (z_list : PySem.W.nsIn K mainGlobals "list" = some none)
    (z_enumerate : PySem.W.nsIn K mainGlobals "enumerate" = some none)
    (z_zip : PySem.W.nsIn K mainGlobals "zip" = some none)
    (z_range : PySem.W.nsIn K mainGlobals "range" = some none)
    (z_max : PySem.W.nsIn K mainGlobals "max" = some none)
    (z_all : PySem.W.nsIn K mainGlobals "all" = some none)
    (z_min : PySem.W.nsIn K mainGlobals "min" = some none)
    (i_gcd : PySem.W.nsIn K mainGlobals "gcd" = some (some (.builtin "math.gcd")))
    (iC0 : PySem.W.isClsIn K C0 = true)
    (tC0 : PySem.W.typeIn K (.ref C0) = some (.type "type"))
    (eC0 : PySem.W.subIn K (.ref C0) (.type "BaseException") = some true)
    (iC1 : PySem.W.isClsIn K C1 = true)
    (tC1 : PySem.W.typeIn K (.ref C1) = some (.type "type"))
    (eC1 : PySem.W.subIn K (.ref C1) (.type "BaseException") = some true)
    (xL1 : K.lookup C1 = some (excClassObj nm1 q1 C1 N1 bs1 [.ref C0, .type "ValueError", .type "Exception", .type "BaseException", .type "object"] true sn1 sub1 ab1 col1 dd1 m01 m11 m21 m31 m51 "ValueError.__new__"))
    (sa1 : PySem.W.findIn K (.ref C1) "__setattr__" = some (some (.builtin "object.__setattr__")))
    (ga1 : PySem.W.findIn K (.ref C1) "__getattribute__" = some (some (.builtin "BaseException.__getattribute__")))
    (gg1 : PySem.W.findIn K (.ref C1) "__getattr__" = some none)
    (nf1 : PySem.W.findIn K (.ref C1) "word" = some none)
    (fi1 : PySem.W.findIn K (.ref C1) "__init__" = some (some (.ref fI1)))
    (ti1 : PySem.W.typeIn K (.ref fI1) = some (.type "function"))
    (kC1 : PySem.W.keepIn K (.ref C1) = true)
    (hC1 : PySem.W.hasDictIn K C1 = true)
    (li1 : K.lookup fI1 = some ⟨ocI1, odI1, .func (PySem.W.fnOf "__init__" "BadNumber.__init__" (defArgs c_BadNumber) (defBody c_BadNumber) (defScope c_BadNumber) .none kVI1 dcI1 pmI1 anI1 cdI1 ctI1), slI1⟩)
    (ci1 : PySem.W.codeIn K cdI1 "BadNumber.__init__" = true)
    (ki1 : PySem.W.keepIn K (.ref fI1) = true)
    (iC4 : PySem.W.isClsIn K C4 = true)
    (tC4 : PySem.W.typeIn K (.ref C4) = some (.type "type"))
    (eC4 : PySem.W.subIn K (.ref C4) (.type "BaseException") = some true)
    (xL4 : K.lookup C4 = some (excClassObj nm4 q4 C4 N4 bs4 [.ref C0, .type "ValueError", .type "Exception", .type "BaseException", .type "object"] true sn4 sub4 ab4 col4 dd4 m04 m14 m24 m34 m54 "ValueError.__new__"))
    (sa4 : PySem.W.findIn K (.ref C4) "__setattr__" = some (some (.builtin "object.__setattr__")))
    (ga4 : PySem.W.findIn K (.ref C4) "__getattribute__" = some (some (.builtin "BaseException.__getattribute__")))
    (gg4 : PySem.W.findIn K (.ref C4) "__getattr__" = some none)
    (nf4 : PySem.W.findIn K (.ref C4) "place" = some none)
    (fi4 : PySem.W.findIn K (.ref C4) "__init__" = some (some (.ref fI4)))
    (ti4 : PySem.W.typeIn K (.ref fI4) = some (.type "function"))
    (kC4 : PySem.W.keepIn K (.ref C4) = true)
    (hC4 : PySem.W.hasDictIn K C4 = true)
    (li4 : K.lookup fI4 = some ⟨ocI4, odI4, .func (PySem.W.fnOf "__init__" "BadTable.__init__" (defArgs c_BadTable) (defBody c_BadTable) (defScope c_BadTable) .none kVI4 dcI4 pmI4 anI4 cdI4 ctI4), slI4⟩)
    (ci4 : PySem.W.codeIn K cdI4 "BadTable.__init__" = true)
    (ki4 : PySem.W.keepIn K (.ref fI4) = true)
    (u1_0 : PySem.W.subIn K (.ref C1) (.ref C0) = some true)
    (u1_1 : PySem.W.subIn K (.ref C1) (.ref C1) = some true)
    (u1_4 : PySem.W.subIn K (.ref C1) (.ref C4) = some false)
    (u4_0 : PySem.W.subIn K (.ref C4) (.ref C0) = some true)
    (u4_1 : PySem.W.subIn K (.ref C4) (.ref C1) = some false)
    (u4_4 : PySem.W.subIn K (.ref C4) (.ref C4) = some true)
    (law : ∀ ns : List Int, ns.length ≤ 63 → F_law [.frl (ns.map D.int)] = .ok (.bl true) false) :
    ∃ fd : FuncData, (∀ (s : Shared) (v : Value), BindsTo s fd ⟨[v], []⟩ [("_law_script", v)]) ∧ ∀ base : Heap, K.In base → base.Ns mainGlobals mg → FnOk l.prog w K mg base (L2.CX l.prog w) 8 fa fd ["_law_script"] (spL K) := by
  have e := hfa.symm.trans (PySem.W.mg_of X G a_law)
  cases e
  refine ⟨PySem.W.fnOf "law" "law" (defArgs s_law) (defBody s_law) (defScope s_law) .none kV_law dc_law pm_law an_law cd_law ct_law, fun s v => .of_eq rfl, fun base KB _ => ?_⟩
  have B : Bn mg := { z_isinstance := PySem.W.mg_none_of X G z_isinstance, z_int := PySem.W.mg_none_of X G z_int, z_bool := PySem.W.mg_none_of X G z_bool, z_abs := PySem.W.mg_none_of X G z_abs, z_tuple := PySem.W.mg_none_of X G z_tuple, z_len := PySem.W.mg_none_of X G z_len, z_list := PySem.W.mg_none_of X G z_list, z_enumerate := PySem.W.mg_none_of X G z_enumerate, z_zip := PySem.W.mg_none_of X G z_zip, z_range := PySem.W.mg_none_of X G z_range, z_max := PySem.W.mg_none_of X G z_max, z_all := PySem.W.mg_none_of X G z_all, z_min := PySem.W.mg_none_of X G z_min, i_gcd := PySem.W.mg_of X G i_gcd }
  have FI1 := fun_mk (st := c_BadNumber) li1 ci1 ki1
  have bI1 := FI1.binds (ps := ["self", "word"]) fun _ _ _ _ _ _ us hl => match us, hl with | [_, _], _ => rfl
  have FI4 := fun_mk (st := c_BadTable) li4 ci4 ki4
  have bI4 := FI4.binds (ps := ["self", "place"]) fun _ _ _ _ _ _ us hl => match us, hl with | [_, _], _ => rfl
  have Ex : Exs l.prog w K mg base (tbl C0 C1 C4) C0 C1 C4 :=
    { g_MergeError := PySem.W.mg_of X G aC0
      x_MergeError := fun c C ns b h1 h2 => by
        match c, h1, h2 with
        | 0, h1, h2 => cases h1
        | 1, h1, h2 => cases h1; cases h2; exact exm_of eC0 iC1 tC0 u1_0 iC0
        | 2, h1, h2 => cases h1
        | 3, h1, h2 => cases h1
        | 4, h1, h2 => cases h1; cases h2; exact exm_of eC0 iC4 tC0 u4_0 iC0
        | _ + 5, h1, h2 => cases h1
      e_BadNumber := excD_mk rfl (PySem.W.mg_of X G aC1) ⟨⟨_, _, _, _, _, _, _, _, _, _, _, _, _, _, _, xL1, by rfl⟩, sa1, eC1, tC1, kC1⟩ ⟨ga1, gg1, eC1, hC1⟩ nf1 fi1 ti1 FI1 cs_BadNumber bI1 fun cdv A outer s H E => pss_one (ps_ost (pv 0) (pv 1))
      g_BadNumber := PySem.W.mg_of X G aC1
      x_BadNumber := fun c C ns b h1 h2 => by
        match c, h1, h2 with
        | 0, h1, h2 => cases h1
        | 1, h1, h2 => cases h1; cases h2; exact exm_of eC1 iC1 tC1 u1_1 iC1
        | 2, h1, h2 => cases h1
        | 3, h1, h2 => cases h1
        | 4, h1, h2 => cases h1; cases h2; exact exm_of eC1 iC4 tC1 u4_1 iC1
        | _ + 5, h1, h2 => cases h1
      e_BadTable := excD_mk rfl (PySem.W.mg_of X G aC4) ⟨⟨_, _, _, _, _, _, _, _, _, _, _, _, _, _, _, xL4, by rfl⟩, sa4, eC4, tC4, kC4⟩ ⟨ga4, gg4, eC4, hC4⟩ nf4 fi4 ti4 FI4 cs_BadTable bI4 fun cdv A outer s H E => pss_one (ps_ost (pv 0) (pv 1))
      g_BadTable := PySem.W.mg_of X G aC4
      x_BadTable := fun c C ns b h1 h2 => by
        match c, h1, h2 with
        | 0, h1, h2 => cases h1
        | 1, h1, h2 => cases h1; cases h2; exact exm_of eC4 iC1 tC4 u1_4 iC4
        | 2, h1, h2 => cases h1
        | 3, h1, h2 => cases h1
        | 4, h1, h2 => cases h1; cases h2; exact exm_of eC4 iC4 tC4 u4_4 iC4
        | _ + 5, h1, h2 => cases h1 }
  have F_whole_number0 := fun_mk (st := s_whole_number) l_whole_number c_whole_number k_whole_number
  have b_whole_number := F_whole_number0.binds (ps := ["x"]) fun _ _ _ _ _ _ us hl => match us, hl with | [_], _ => rfl
  have d_whole_number := ok_whole_number (P := l.prog) (w := w) (base := base) (T := tbl C0 C1 C4) F_whole_number0 (PySem.W.mg_of X G a_whole_number) b_whole_number B 
  have F_shared_divisor0 := fun_mk (st := s_shared_divisor) l_shared_divisor c_shared_divisor k_shared_divisor
  have b_shared_divisor := F_shared_divisor0.binds (ps := ["one", "two"]) fun _ _ _ _ _ _ us hl => match us, hl with | [_, _], _ => rfl
  have d_shared_divisor := ok_shared_divisor (P := l.prog) (w := w) (base := base) (T := tbl C0 C1 C4) F_shared_divisor0 (PySem.W.mg_of X G a_shared_divisor) b_shared_divisor B 
  have F_is_amount0 := fun_mk (st := s_is_amount) l_is_amount c_is_amount k_is_amount
  have b_is_amount := F_is_amount0.binds (ps := ["x"]) fun _ _ _ _ _ _ us hl => match us, hl with | [_], _ => rfl
  have d_is_amount := ok_is_amount (P := l.prog) (w := w) (base := base) (T := tbl C0 C1 C4) F_is_amount0 (PySem.W.mg_of X G a_is_amount) b_is_amount B d_whole_number d_shared_divisor
  have F_as_fraction0 := fun_mk (st := s_as_fraction) l_as_fraction c_as_fraction k_as_fraction
  have b_as_fraction := F_as_fraction0.binds (ps := ["x"]) fun _ _ _ _ _ _ us hl => match us, hl with | [_], _ => rfl
  have d_as_fraction := ok_as_fraction (P := l.prog) (w := w) (base := base) (T := tbl C0 C1 C4) F_as_fraction0 (PySem.W.mg_of X G a_as_fraction) b_as_fraction B 
  have F_checked_number0 := fun_mk (st := s_checked_number) l_checked_number c_checked_number k_checked_number
  have b_checked_number := F_checked_number0.binds (ps := ["x", "low", "high", "word"]) fun _ _ _ _ _ _ us hl => match us, hl with | [_, _, _, _], _ => rfl
  have d_checked_number := ok_checked_number (P := l.prog) (w := w) (base := base) (T := tbl C0 C1 C4) F_checked_number0 (PySem.W.mg_of X G a_checked_number) b_checked_number B Ex d_whole_number
  have F_checked_amount0 := fun_mk (st := s_checked_amount) l_checked_amount c_checked_amount k_checked_amount
  have b_checked_amount := F_checked_amount0.binds (ps := ["x", "word"]) fun _ _ _ _ _ _ us hl => match us, hl with | [_, _], _ => rfl
  have d_checked_amount := ok_checked_amount (P := l.prog) (w := w) (base := base) (T := tbl C0 C1 C4) F_checked_amount0 (PySem.W.mg_of X G a_checked_amount) b_checked_amount B Ex d_is_amount d_as_fraction
  have F_reduced0 := fun_mk (st := s_reduced) l_reduced c_reduced k_reduced
  have b_reduced := F_reduced0.binds (ps := ["top", "bottom"]) fun _ _ _ _ _ _ us hl => match us, hl with | [_, _], _ => rfl
  have d_reduced := ok_reduced (P := l.prog) (w := w) (base := base) (T := tbl C0 C1 C4) F_reduced0 (PySem.W.mg_of X G a_reduced) b_reduced B 
  have F_added0 := fun_mk (st := s_added) l_added c_added k_added
  have b_added := F_added0.binds (ps := ["f", "g"]) fun _ _ _ _ _ _ us hl => match us, hl with | [_, _], _ => rfl
  have d_added := ok_added (P := l.prog) (w := w) (base := base) (T := tbl C0 C1 C4) F_added0 (PySem.W.mg_of X G a_added) b_added B d_reduced
  have F_taken0 := fun_mk (st := s_taken) l_taken c_taken k_taken
  have b_taken := F_taken0.binds (ps := ["f", "g"]) fun _ _ _ _ _ _ us hl => match us, hl with | [_, _], _ => rfl
  have d_taken := ok_taken (P := l.prog) (w := w) (base := base) (T := tbl C0 C1 C4) F_taken0 (PySem.W.mg_of X G a_taken) b_taken B d_reduced
  have F_product_of0 := fun_mk (st := s_product_of) l_product_of c_product_of k_product_of
  have b_product_of := F_product_of0.binds (ps := ["f", "g"]) fun _ _ _ _ _ _ us hl => match us, hl with | [_, _], _ => rfl
  have d_product_of := ok_product_of (P := l.prog) (w := w) (base := base) (T := tbl C0 C1 C4) F_product_of0 (PySem.W.mg_of X G a_product_of) b_product_of B d_reduced
  have F_total0 := fun_mk (st := s_total) l_total c_total k_total
  have b_total := F_total0.binds (ps := ["rest"]) fun _ _ _ _ _ _ us hl => match us, hl with | [_], _ => rfl
  have d_total := ok_total (P := l.prog) (w := w) (base := base) (T := tbl C0 C1 C4) F_total0 (PySem.W.mg_of X G a_total) b_total B Ex d_is_amount d_as_fraction d_added
  have F_checked_size0 := fun_mk (st := s_checked_size) l_checked_size c_checked_size k_checked_size
  have b_checked_size := F_checked_size0.binds (ps := ["n", "word"]) fun _ _ _ _ _ _ us hl => match us, hl with | [_, _], _ => rfl
  have d_checked_size := ok_checked_size (P := l.prog) (w := w) (base := base) (T := tbl C0 C1 C4) F_checked_size0 (PySem.W.mg_of X G a_checked_size) b_checked_size B Ex d_whole_number
  have F_is_finer0 := fun_mk (st := s_is_finer) l_is_finer c_is_finer k_is_finer
  have b_is_finer := F_is_finer0.binds (ps := ["p", "r"]) fun _ _ _ _ _ _ us hl => match us, hl with | [_, _], _ => rfl
  have d_is_finer := ok_is_finer (P := l.prog) (w := w) (base := base) (T := tbl C0 C1 C4) F_is_finer0 (PySem.W.mg_of X G a_is_finer) b_is_finer B 
  have F_partings0 := fun_mk (st := s_partings) l_partings c_partings k_partings
  have b_partings := F_partings0.binds (ps := ["n"]) fun _ _ _ _ _ _ us hl => match us, hl with | [_], _ => rfl
  have d_partings := ok_partings (P := l.prog) (w := w) (base := base) (T := tbl C0 C1 C4) F_partings0 (PySem.W.mg_of X G a_partings) b_partings B d_checked_size
  have F_checked_table0 := fun_mk (st := s_checked_table) l_checked_table c_checked_table k_checked_table
  have b_checked_table := F_checked_table0.binds (ps := ["n", "table"]) fun _ _ _ _ _ _ us hl => match us, hl with | [_, _], _ => rfl
  have d_checked_table := ok_checked_table (P := l.prog) (w := w) (base := base) (T := tbl C0 C1 C4) F_checked_table0 (PySem.W.mg_of X G a_checked_table) b_checked_table B Ex d_is_amount d_as_fraction d_partings
  have F_colour_row0 := fun_mk (st := s_colour_row) l_colour_row c_colour_row k_colour_row
  have b_colour_row := F_colour_row0.binds (ps := ["b", "table"]) fun _ _ _ _ _ _ us hl => match us, hl with | [_, _], _ => rfl
  have d_colour_row := ok_colour_row (P := l.prog) (w := w) (base := base) (T := tbl C0 C1 C4) F_colour_row0 (PySem.W.mg_of X G a_colour_row) b_colour_row B Ex d_checked_table
  have F_exit_at0 := fun_mk (st := s_exit_at) l_exit_at c_exit_at k_exit_at
  have b_exit_at := F_exit_at0.binds (ps := ["told", "t"]) fun _ _ _ _ _ _ us hl => match us, hl with | [_, _], _ => rfl
  have d_exit_at := ok_exit_at (P := l.prog) (w := w) (base := base) (T := tbl C0 C1 C4) F_exit_at0 (PySem.W.mg_of X G a_exit_at) b_exit_at B d_added d_is_finer d_partings
  have F_triangle0 := fun_mk (st := s_triangle) l_triangle c_triangle k_triangle
  have b_triangle := F_triangle0.binds (ps := ["first", "second", "third"]) fun _ _ _ _ _ _ us hl => match us, hl with | [_, _, _], _ => rfl
  have d_triangle := ok_triangle (P := l.prog) (w := w) (base := base) (T := tbl C0 C1 C4) F_triangle0 (PySem.W.mg_of X G a_triangle) b_triangle B d_checked_amount d_taken d_product_of d_total
  have F_from_triangle0 := fun_mk (st := s_from_triangle) l_from_triangle c_from_triangle k_from_triangle
  have b_from_triangle := F_from_triangle0.binds (ps := ["first", "second", "third"]) fun _ _ _ _ _ _ us hl => match us, hl with | [_, _, _], _ => rfl
  have d_from_triangle := ok_from_triangle (P := l.prog) (w := w) (base := base) (T := tbl C0 C1 C4) F_from_triangle0 (PySem.W.mg_of X G a_from_triangle) b_from_triangle B d_triangle
  have F_cuts0 := fun_mk (st := s_cuts) l_cuts c_cuts k_cuts
  have b_cuts := F_cuts0.binds (ps := ["n"]) fun _ _ _ _ _ _ us hl => match us, hl with | [_], _ => rfl
  have d_cuts := ok_cuts (P := l.prog) (w := w) (base := base) (T := tbl C0 C1 C4) F_cuts0 (PySem.W.mg_of X G a_cuts) b_cuts B d_checked_number d_partings
  have F_cut_rates0 := fun_mk (st := s_cut_rates) l_cut_rates c_cut_rates k_cut_rates
  have b_cut_rates := F_cut_rates0.binds (ps := ["n", "row"]) fun _ _ _ _ _ _ us hl => match us, hl with | [_, _], _ => rfl
  have d_cut_rates := ok_cut_rates (P := l.prog) (w := w) (base := base) (T := tbl C0 C1 C4) F_cut_rates0 (PySem.W.mg_of X G a_cut_rates) b_cut_rates B d_colour_row d_exit_at d_cuts
  have F__law_draws0 := fun_mk (st := s__law_draws) l__law_draws c__law_draws k__law_draws
  have b__law_draws := F__law_draws0.binds (ps := ["_law_script"]) fun _ _ _ _ _ _ us hl => match us, hl with | [_], _ => rfl
  have d__law_draws := ok__law_draws (P := l.prog) (w := w) (base := base) (T := tbl C0 C1 C4) F__law_draws0 (PySem.W.mg_of X G a__law_draws) b__law_draws B 
  have F__law_pick0 := fun_mk (st := s__law_pick) l__law_pick c__law_pick k__law_pick
  have b__law_pick := F__law_pick0.binds (ps := ["_law_draws_here", "_law_at", "_law_many_here"]) fun _ _ _ _ _ _ us hl => match us, hl with | [_, _, _], _ => rfl
  have d__law_pick := ok__law_pick (P := l.prog) (w := w) (base := base) (T := tbl C0 C1 C4) F__law_pick0 (PySem.W.mg_of X G a__law_pick) b__law_pick B 
  have F__law_all0 := fun_mk (st := s__law_all) l__law_all c__law_all k__law_all
  have b__law_all := F__law_all0.binds (ps := ["_law_size"]) fun _ _ _ _ _ _ us hl => match us, hl with | [_], _ => rfl
  have d__law_all := ok__law_all (P := l.prog) (w := w) (base := base) (T := tbl C0 C1 C4) F__law_all0 (PySem.W.mg_of X G a__law_all) b__law_all B 
  have F__law_many0 := fun_mk (st := s__law_many) l__law_many c__law_many k__law_many
  have b__law_many := F__law_many0.binds (ps := ["_law_p"]) fun _ _ _ _ _ _ us hl => match us, hl with | [_], _ => rfl
  have d__law_many := ok__law_many (P := l.prog) (w := w) (base := base) (T := tbl C0 C1 C4) F__law_many0 (PySem.W.mg_of X G a__law_many) b__law_many B 
  have F__law_finer0 := fun_mk (st := s__law_finer) l__law_finer c__law_finer k__law_finer
  have b__law_finer := F__law_finer0.binds (ps := ["_law_p", "_law_r"]) fun _ _ _ _ _ _ us hl => match us, hl with | [_, _], _ => rfl
  have d__law_finer := ok__law_finer (P := l.prog) (w := w) (base := base) (T := tbl C0 C1 C4) F__law_finer0 (PySem.W.mg_of X G a__law_finer) b__law_finer B 
  have F__law_gcd0 := fun_mk (st := s__law_gcd) l__law_gcd c__law_gcd k__law_gcd
  have b__law_gcd := F__law_gcd0.binds (ps := ["_law_one", "_law_two"]) fun _ _ _ _ _ _ us hl => match us, hl with | [_, _], _ => rfl
  have d__law_gcd := ok__law_gcd (P := l.prog) (w := w) (base := base) (T := tbl C0 C1 C4) F__law_gcd0 (PySem.W.mg_of X G a__law_gcd) b__law_gcd B 
  have F__law_frac0 := fun_mk (st := s__law_frac) l__law_frac c__law_frac k__law_frac
  have b__law_frac := F__law_frac0.binds (ps := ["_law_top", "_law_bottom"]) fun _ _ _ _ _ _ us hl => match us, hl with | [_, _], _ => rfl
  have d__law_frac := ok__law_frac (P := l.prog) (w := w) (base := base) (T := tbl C0 C1 C4) F__law_frac0 (PySem.W.mg_of X G a__law_frac) b__law_frac B d__law_gcd
  have F__law_plus0 := fun_mk (st := s__law_plus) l__law_plus c__law_plus k__law_plus
  have b__law_plus := F__law_plus0.binds (ps := ["_law_f", "_law_g"]) fun _ _ _ _ _ _ us hl => match us, hl with | [_, _], _ => rfl
  have d__law_plus := ok__law_plus (P := l.prog) (w := w) (base := base) (T := tbl C0 C1 C4) F__law_plus0 (PySem.W.mg_of X G a__law_plus) b__law_plus B d__law_frac
  have F__law_minus0 := fun_mk (st := s__law_minus) l__law_minus c__law_minus k__law_minus
  have b__law_minus := F__law_minus0.binds (ps := ["_law_f", "_law_g"]) fun _ _ _ _ _ _ us hl => match us, hl with | [_, _], _ => rfl
  have d__law_minus := ok__law_minus (P := l.prog) (w := w) (base := base) (T := tbl C0 C1 C4) F__law_minus0 (PySem.W.mg_of X G a__law_minus) b__law_minus B d__law_frac
  have F__law_times0 := fun_mk (st := s__law_times) l__law_times c__law_times k__law_times
  have b__law_times := F__law_times0.binds (ps := ["_law_f", "_law_g"]) fun _ _ _ _ _ _ us hl => match us, hl with | [_, _], _ => rfl
  have d__law_times := ok__law_times (P := l.prog) (w := w) (base := base) (T := tbl C0 C1 C4) F__law_times0 (PySem.W.mg_of X G a__law_times) b__law_times B d__law_frac
  have F__law_less0 := fun_mk (st := s__law_less) l__law_less c__law_less k__law_less
  have b__law_less := F__law_less0.binds (ps := ["_law_f", "_law_g"]) fun _ _ _ _ _ _ us hl => match us, hl with | [_, _], _ => rfl
  have d__law_less := ok__law_less (P := l.prog) (w := w) (base := base) (T := tbl C0 C1 C4) F__law_less0 (PySem.W.mg_of X G a__law_less) b__law_less B 
  have F__law_handed0 := fun_mk (st := s__law_handed) l__law_handed c__law_handed k__law_handed
  have b__law_handed := F__law_handed0.binds (ps := ["_law_numbers"]) fun _ _ _ _ _ _ us hl => match us, hl with | [_], _ => rfl
  have d__law_handed := ok__law_handed (P := l.prog) (w := w) (base := base) (T := tbl C0 C1 C4) F__law_handed0 (PySem.W.mg_of X G a__law_handed) b__law_handed B 
  have F__law_cuts0 := fun_mk (st := s__law_cuts) l__law_cuts c__law_cuts k__law_cuts
  have b__law_cuts := F__law_cuts0.binds (ps := ["_law_size"]) fun _ _ _ _ _ _ us hl => match us, hl with | [_], _ => rfl
  have d__law_cuts := ok__law_cuts (P := l.prog) (w := w) (base := base) (T := tbl C0 C1 C4) F__law_cuts0 (PySem.W.mg_of X G a__law_cuts) b__law_cuts B d__law_all d__law_many
  have F__law_leave0 := fun_mk (st := s__law_leave) l__law_leave c__law_leave k__law_leave
  have b__law_leave := F__law_leave0.binds (ps := ["_law_size", "_law_row", "_law_t"]) fun _ _ _ _ _ _ us hl => match us, hl with | [_, _, _], _ => rfl
  have d__law_leave := ok__law_leave (P := l.prog) (w := w) (base := base) (T := tbl C0 C1 C4) F__law_leave0 (PySem.W.mg_of X G a__law_leave) b__law_leave B d__law_all d__law_finer d__law_plus
  have F__law_amounts0 := fun_mk (st := s__law_amounts) l__law_amounts c__law_amounts k__law_amounts
  have b__law_amounts := F__law_amounts0.binds (ps := ["_law_draws_here"]) fun _ _ _ _ _ _ us hl => match us, hl with | [_], _ => rfl
  have d__law_amounts := ok__law_amounts (P := l.prog) (w := w) (base := base) (T := tbl C0 C1 C4) F__law_amounts0 (PySem.W.mg_of X G a__law_amounts) b__law_amounts B d__law_pick d__law_frac d__law_plus
  have F__law_weighed0 := fun_mk (st := s__law_weighed) l__law_weighed c__law_weighed k__law_weighed
  have b__law_weighed := F__law_weighed0.binds (ps := ["_law_a", "_law_b", "_law_c"]) fun _ _ _ _ _ _ us hl => match us, hl with | [_, _, _], _ => rfl
  have d__law_weighed := ok__law_weighed (P := l.prog) (w := w) (base := base) (T := tbl C0 C1 C4) F__law_weighed0 (PySem.W.mg_of X G a__law_weighed) b__law_weighed B d__law_plus d__law_minus d__law_times
  have F__law_whole0 := fun_mk (st := s__law_whole) l__law_whole c__law_whole k__law_whole
  have b__law_whole := F__law_whole0.binds (ps := ["_law_a", "_law_b", "_law_c"]) fun _ _ _ _ _ _ us hl => match us, hl with | [_, _, _], _ => rfl
  have d__law_whole := ok__law_whole (P := l.prog) (w := w) (base := base) (T := tbl C0 C1 C4) F__law_whole0 (PySem.W.mg_of X G a__law_whole) b__law_whole B 
  have F__law_refused0 := fun_mk (st := s__law_refused) l__law_refused c__law_refused k__law_refused
  have b__law_refused := F__law_refused0.binds (ps := ["_law_a", "_law_b", "_law_c", "_law_sure"]) fun _ _ _ _ _ _ us hl => match us, hl with | [_, _, _, _], _ => rfl
  have d__law_refused := ok__law_refused (P := l.prog) (w := w) (base := base) (T := tbl C0 C1 C4) F__law_refused0 (PySem.W.mg_of X G a__law_refused) b__law_refused B Ex d_triangle d_from_triangle
  have F_law0 := fun_mk (st := s_law) l_law c_law k_law
  exact (ok_law (P := l.prog) (w := w) (base := base) (T := tbl C0 C1 C4) F_law0 B d_triangle d_from_triangle d_cut_rates d__law_draws d__law_pick d__law_frac d__law_plus d__law_less d__law_handed d__law_cuts d__law_leave d__law_amounts d__law_weighed d__law_whole d__law_refused).imp (spL_of law)end Lk54
open PySem PySem.W PyProof.Rows
set_option maxHeartbeats 0 in
theorem PySem.Challenge.cw_mergerates_k54_triangle_of_cuts_holds : PySem.Challenge.rw_mergerates_k54_triangle_of_cuts.Holds := by
  w_on; o_law; k_head; (case hw => w_witness2)
  k_fill
  refine L2.walk_of (l := PySem.Challenge.rw_mergerates_k54_triangle_of_cuts) (n := 63) (k := 8) (x := "_law_script") (CX := fun w => L2.CX (PySem.Challenge.rw_mergerates_k54_triangle_of_cuts).prog w) (sp := fun w => MR.spL _) rfl (by decide) rfl ⟨rfl, by decide, by decide⟩ (fun w h Y => PySem.W.kIn_of Y) ?F (fun _ _ a ns hl _ hS => ⟨a, ns, rfl, hS, hl, fun _ => rfl⟩) (fun _ _ _ _ _ h => MR.cx_end h)
  case F =>
    intro w mg fa h KX G hmg
    refine' Lk54.all_mk KX G hmg ?aC0 ?aC1 ?aC4 ?a_whole_number ?l_whole_number ?c_whole_number ?k_whole_number ?a_shared_divisor ?l_shared_divisor ?c_shared_divisor ?k_shared_divisor ?a_is_amount ?l_is_amount ?c_is_amount ?k_is_amount ?a_as_fraction ?l_as_fraction ?c_as_fraction ?k_as_fraction ?a_checked_number ?l_checked_number ?c_checked_number ?k_checked_number ?a_checked_amount ?l_checked_amount ?c_checked_amount ?k_checked_amount ?a_reduced ?l_reduced ?c_reduced ?k_reduced ?a_added ?l_added ?c_added ?k_added ?a_taken ?l_taken ?c_taken ?k_taken ?a_product_of ?l_product_of ?c_product_of ?k_product_of ?a_total ?l_total ?c_total ?k_total ?a_checked_size ?l_checked_size ?c_checked_size ?k_checked_size ?a_is_finer ?l_is_finer ?c_is_finer ?k_is_finer ?a_partings ?l_partings ?c_partings ?k_partings ?a_checked_table ?l_checked_table ?c_checked_table ?k_checked_table ?a_colour_row ?l_colour_row ?c_colour_row ?k_colour_row ?a_exit_at ?l_exit_at ?c_exit_at ?k_exit_at ?a_triangle ?l_triangle ?c_triangle ?k_triangle ?a_from_triangle ?l_from_triangle ?c_from_triangle ?k_from_triangle ?a_cuts ?l_cuts ?c_cuts ?k_cuts ?a_cut_rates ?l_cut_rates ?c_cut_rates ?k_cut_rates ?a__law_draws ?l__law_draws ?c__law_draws ?k__law_draws ?a__law_pick ?l__law_pick ?c__law_pick ?k__law_pick ?a__law_all ?l__law_all ?c__law_all ?k__law_all ?a__law_many ?l__law_many ?c__law_many ?k__law_many ?a__law_finer ?l__law_finer ?c__law_finer ?k__law_finer ?a__law_gcd ?l__law_gcd ?c__law_gcd ?k__law_gcd ?a__law_frac ?l__law_frac ?c__law_frac ?k__law_frac ?a__law_plus ?l__law_plus ?c__law_plus ?k__law_plus ?a__law_minus ?l__law_minus ?c__law_minus ?k__law_minus ?a__law_times ?l__law_times ?c__law_times ?k__law_times ?a__law_less ?l__law_less ?c__law_less ?k__law_less ?a__law_handed ?l__law_handed ?c__law_handed ?k__law_handed ?a__law_cuts ?l__law_cuts ?c__law_cuts ?k__law_cuts ?a__law_leave ?l__law_leave ?c__law_leave ?k__law_leave ?a__law_amounts ?l__law_amounts ?c__law_amounts ?k__law_amounts ?a__law_weighed ?l__law_weighed ?c__law_weighed ?k__law_weighed ?a__law_whole ?l__law_whole ?c__law_whole ?k__law_whole ?a__law_refused ?l__law_refused ?c__law_refused ?k__law_refused ?a_law ?l_law ?c_law ?k_law ?z_isinstance ?z_int ?z_bool ?z_abs ?z_tuple ?z_len ?z_list ?z_enumerate ?z_zip ?z_range ?z_max ?z_all ?z_min ?i_gcd ?iC0 ?tC0 ?eC0 ?iC1 ?tC1 ?eC1 ?xL1 ?sa1 ?ga1 ?gg1 ?nf1 ?fi1 ?ti1 ?kC1 ?hC1 ?li1 ?ci1 ?ki1 ?iC4 ?tC4 ?eC4 ?xL4 ?sa4 ?ga4 ?gg4 ?nf4 ?fi4 ?ti4 ?kC4 ?hC4 ?li4 ?ci4 ?ki4 ?u1_0 ?u1_1 ?u1_4 ?u4_0 ?u4_1 ?u4_4 Lk54.law_true
    (case aC0 => k_is); (case aC1 => k_is); (case aC4 => k_is); (case a_whole_number => k_is); (case l_whole_number => k_is); (case c_whole_number => k_is); (case k_whole_number => k_is); (case a_shared_divisor => k_is); (case l_shared_divisor => k_is); (case c_shared_divisor => k_is); (case k_shared_divisor => k_is); (case a_is_amount => k_is); (case l_is_amount => k_is); (case c_is_amount => k_is); (case k_is_amount => k_is); (case a_as_fraction => k_is); (case l_as_fraction => k_is); (case c_as_fraction => k_is); (case k_as_fraction => k_is); (case a_checked_number => k_is); (case l_checked_number => k_is); (case c_checked_number => k_is); (case k_checked_number => k_is); (case a_checked_amount => k_is); (case l_checked_amount => k_is); (case c_checked_amount => k_is); (case k_checked_amount => k_is); (case a_reduced => k_is); (case l_reduced => k_is); (case c_reduced => k_is); (case k_reduced => k_is); (case a_added => k_is); (case l_added => k_is); (case c_added => k_is); (case k_added => k_is); (case a_taken => k_is); (case l_taken => k_is); (case c_taken => k_is); (case k_taken => k_is); (case a_product_of => k_is); (case l_product_of => k_is); (case c_product_of => k_is); (case k_product_of => k_is); (case a_total => k_is); (case l_total => k_is); (case c_total => k_is); (case k_total => k_is); (case a_checked_size => k_is); (case l_checked_size => k_is); (case c_checked_size => k_is); (case k_checked_size => k_is); (case a_is_finer => k_is); (case l_is_finer => k_is); (case c_is_finer => k_is); (case k_is_finer => k_is); (case a_partings => k_is); (case l_partings => k_is); (case c_partings => k_is); (case k_partings => k_is); (case a_checked_table => k_is); (case l_checked_table => k_is); (case c_checked_table => k_is); (case k_checked_table => k_is); (case a_colour_row => k_is); (case l_colour_row => k_is); (case c_colour_row => k_is); (case k_colour_row => k_is); (case a_exit_at => k_is); (case l_exit_at => k_is); (case c_exit_at => k_is); (case k_exit_at => k_is); (case a_triangle => k_is); (case l_triangle => k_is); (case c_triangle => k_is); (case k_triangle => k_is); (case a_from_triangle => k_is); (case l_from_triangle => k_is); (case c_from_triangle => k_is); (case k_from_triangle => k_is); (case a_cuts => k_is); (case l_cuts => k_is); (case c_cuts => k_is); (case k_cuts => k_is); (case a_cut_rates => k_is); (case l_cut_rates => k_is); (case c_cut_rates => k_is); (case k_cut_rates => k_is); (case a__law_draws => k_is); (case l__law_draws => k_is); (case c__law_draws => k_is); (case k__law_draws => k_is); (case a__law_pick => k_is); (case l__law_pick => k_is); (case c__law_pick => k_is); (case k__law_pick => k_is); (case a__law_all => k_is); (case l__law_all => k_is); (case c__law_all => k_is); (case k__law_all => k_is); (case a__law_many => k_is); (case l__law_many => k_is); (case c__law_many => k_is); (case k__law_many => k_is); (case a__law_finer => k_is); (case l__law_finer => k_is); (case c__law_finer => k_is); (case k__law_finer => k_is); (case a__law_gcd => k_is); (case l__law_gcd => k_is); (case c__law_gcd => k_is); (case k__law_gcd => k_is); (case a__law_frac => k_is); (case l__law_frac => k_is); (case c__law_frac => k_is); (case k__law_frac => k_is); (case a__law_plus => k_is); (case l__law_plus => k_is); (case c__law_plus => k_is); (case k__law_plus => k_is); (case a__law_minus => k_is); (case l__law_minus => k_is); (case c__law_minus => k_is); (case k__law_minus => k_is); (case a__law_times => k_is); (case l__law_times => k_is); (case c__law_times => k_is); (case k__law_times => k_is); (case a__law_less => k_is); (case l__law_less => k_is); (case c__law_less => k_is); (case k__law_less => k_is); (case a__law_handed => k_is); (case l__law_handed => k_is); (case c__law_handed => k_is); (case k__law_handed => k_is); (case a__law_cuts => k_is); (case l__law_cuts => k_is); (case c__law_cuts => k_is); (case k__law_cuts => k_is); (case a__law_leave => k_is); (case l__law_leave => k_is); (case c__law_leave => k_is); (case k__law_leave => k_is); (case a__law_amounts => k_is); (case l__law_amounts => k_is); (case c__law_amounts => k_is); (case k__law_amounts => k_is); (case a__law_weighed => k_is); (case l__law_weighed => k_is); (case c__law_weighed => k_is); (case k__law_weighed => k_is); (case a__law_whole => k_is); (case l__law_whole => k_is); (case c__law_whole => k_is); (case k__law_whole => k_is); (case a__law_refused => k_is); (case l__law_refused => k_is); (case c__law_refused => k_is); (case k__law_refused => k_is); (case a_law => k_is); (case l_law => k_is); (case c_law => k_is); (case k_law => k_is); (case z_isinstance => k_is); (case z_int => k_is); (case z_bool => k_is); (case z_abs => k_is); (case z_tuple => k_is); (case z_len => k_is); (case z_list => k_is); (case z_enumerate => k_is); (case z_zip => k_is); (case z_range => k_is); (case z_max => k_is); (case z_all => k_is); (case z_min => k_is); (case i_gcd => k_is); (case iC0 => k_is); (case tC0 => k_is); (case eC0 => k_is); (case iC1 => k_is); (case tC1 => k_is); (case eC1 => k_is); (case xL1 => k_is); (case sa1 => k_is); (case ga1 => k_is); (case gg1 => k_is); (case nf1 => k_is); (case fi1 => k_is); (case ti1 => k_is); (case kC1 => k_is); (case hC1 => k_is); (case li1 => k_is); (case ci1 => k_is); (case ki1 => k_is); (case iC4 => k_is); (case tC4 => k_is); (case eC4 => k_is); (case xL4 => k_is); (case sa4 => k_is); (case ga4 => k_is); (case gg4 => k_is); (case nf4 => k_is); (case fi4 => k_is); (case ti4 => k_is); (case kC4 => k_is); (case hC4 => k_is); (case li4 => k_is); (case ci4 => k_is); (case ki4 => k_is); (case u1_0 => first | rfl | k_is); (case u1_1 => first | rfl | k_is); (case u1_4 => first | rfl | k_is); (case u4_0 => first | rfl | k_is); (case u4_1 => first | rfl | k_is); (case u4_4 => first | rfl | k_is)

