import PyProof.Rows.All
import Wide.All
import OpenK.AllK
import Wide.FinOn
import PySem.Challenge.RW_tworooms_k77_line_ends_with_the_value
import HandS.ForMost
import HandS.ForExc
import HandS.CallSlots
import HandS.Wide
import HandS.IsInst
import HandS.Defaults
import HandS.TryMany
import HandS.More
import HandS.Flow
import HandS.TupAny
import HandS.Conv
import HandS.WrittenGet
import HandS.Style
import HandS.ExcInit
import HandS.ExcField
import HandS.ExcIs
import KE.KExcIs
import HandS.WideBits
import HandS.MakeKwOnly
import KE.KStateDown
import HandS.Head0
import HandS.Head1
import HandS.Head2
import HandS.HeadEnd
import HandS.HeadHook1
import HandS.HeadHook2
import HandS.HeadHook3
import HandS.HeadHook4
import HandS.HeadWalk
import HandS.EndTab
set_option Elab.async false
set_option linter.all false
set_option maxRecDepth 100000
set_option maxHeartbeats 4000000
namespace T2
open PySem PySem.Spec PyProof.Rows L2
abbrev St := L2.St

/-- data as trees; raw: a reference to something that may change, told in Mu -/
inductive D where
  | non | bl (b : Bool) | int (i : Int) | str (s : Str)
  | lst (xs : List D) | tup (xs : List D)
  | dct (kvs : List (Key × D))
  | obj (c : Str) (fs : List (Str × D))
  | raw (a : Addr)
  | scr (xs : List D)
  | exc (a ca : Addr) (dx : Option Addr) (c : Str) (fs : List (Str × D))

abbrev FE := List (Str × D)
inductive MO where
  | lst (xs : List D)
  | dct (kvs : List (Key × D))
  | ins (c : Str) (fs : FE)
abbrev Mu := Addr → Option MO
def mset (μ : Mu) (a : Addr) (m : MO) : Mu := fun b => if b = a then some m else μ b
theorem mset_same {μ : Mu} {a : Addr} {m : MO} : mset μ a m a = some m := if_pos rfl
theorem mset_ne {μ : Mu} {a b : Addr} {m : MO} (h : b ≠ a) : mset μ a m b = μ b := if_neg h
theorem mset_mset {μ : Mu} {a : Addr} {m m' : MO} : mset (mset μ a m) a m' = mset μ a m' := by
  funext b; unfold mset; split <;> rfl
abbrev Env := List (Option D)

/-- the classes by name; those of exceptions -/
structure CT where
  cls : Str → Option Addr
  xcls : Str → Option Addr

mutual
def Rep (K : PySem.W.Frag) (C : CT) (F : Hp) : D → V → Prop
  | .non, v => v = .non
  | .bl b, v => v = .bl b
  | .int i, v => v = .int i
  | .str s, v => v = .str s
  | .lst ds, v => ∃ a xs, v = .ref a ∧ F a = some (.lst xs) ∧ RepL K C F ds xs
  | .scr ds, v => ∃ a xs, v = .ref a ∧ SqL K F a xs ∧ RepL K C F ds xs
  | .tup ds, v => ∃ a xs, v = .ref a ∧ SqT K F a xs ∧ RepL K C F ds xs
  | .dct ks, v => ∃ a xs, v = .ref a ∧ F a = some (.dK xs) ∧ RepK K C F ks xs
  | .obj c fs, v => ∃ a ca dx xs, v = .ref a ∧ C.cls c = some ca ∧ F a = some (.ins ca dx xs) ∧ RepF K C F fs xs
  | .raw a, v => v = .ref a
  | .exc a ca dd c fs, v => v = .ref a ∧ C.xcls c = some ca ∧ ((fs = [] ∧ dd = none) ∨ ∃ dx xs, dd = some dx ∧ F dx = some (.xd xs) ∧ RepF K C F fs xs)
def RepL (K : PySem.W.Frag) (C : CT) (F : Hp) : List D → List V → Prop
  | [], xs => xs = []
  | d :: ds, xs => ∃ x r, xs = x :: r ∧ Rep K C F d x ∧ RepL K C F ds r
def RepK (K : PySem.W.Frag) (C : CT) (F : Hp) : List (Key × D) → List (Key × V) → Prop
  | [], xs => xs = []
  | (k, d) :: ds, xs => ∃ x r, xs = (k, x) :: r ∧ Rep K C F d x ∧ RepK K C F ds r
def RepF (K : PySem.W.Frag) (C : CT) (F : Hp) : List (Str × D) → List (Str × V) → Prop
  | [], xs => xs = []
  | (k, d) :: ds, xs => ∃ x r, xs = (k, x) :: r ∧ Rep K C F d x ∧ RepF K C F ds r
end

def Sub (F G : Hp) : Prop := ∀ a o, F a = some o → G a = some o
theorem Sub.refl (F : Hp) : Sub F F := fun _ _ h => h
theorem Sub.trans {F G H : Hp} (a : Sub F G) (b : Sub G H) : Sub F H := fun x o h => b x o (a x o h)
theorem Sub.new {H : Hp} {p : Addr} {o : HO} (h : H p = none) : Sub H (upd H p o) := fun a u e => by
  rw [upd_ne (ne_of_none e h)]
  exact e
theorem Sub.rd {F G : Hp} (s : Sub F G) {a : Addr} {u : HO} (h : Rd F a u) : Rd G a u := by
  rcases h with h | ⟨o, h⟩
  · exact .inl (s a _ h)
  · exact .inr ⟨o, s a _ h⟩
theorem Sub.sqL {K : PySem.W.Frag} {F G : Hp} (s : Sub F G) {a : Addr} {xs : List V} (h : SqL K F a xs) : SqL K G a xs := h.elim (fun h => .inl (s.rd h)) .inr
theorem Sub.sqT {K : PySem.W.Frag} {F G : Hp} (s : Sub F G) {a : Addr} {xs : List V} (h : SqT K F a xs) : SqT K G a xs := h.elim (fun h => .inl (s.rd h)) .inr

section
variable {K : PySem.W.Frag} {C : CT} {F G : Hp}
mutual
theorem Rep.mono (s : Sub F G) : ∀ {d : D} {v : V}, Rep K C F d v → Rep K C G d v
  | .non, _, h => h
  | .bl _, _, h => h
  | .int _, _, h => h
  | .str _, _, h => h
  | .raw _, _, h => h
  | .lst ds, v, h => by
    unfold Rep at h ⊢
    obtain ⟨a, xs, e, q, r⟩ := h
    exact ⟨a, xs, e, s _ _ q, RepL.mono s r⟩
  | .scr ds, v, h => by
    unfold Rep at h ⊢
    obtain ⟨a, xs, e, q, r⟩ := h
    exact ⟨a, xs, e, s.sqL q, RepL.mono s r⟩
  | .tup ds, v, h => by
    unfold Rep at h ⊢
    obtain ⟨a, xs, e, q, r⟩ := h
    exact ⟨a, xs, e, s.sqT q, RepL.mono s r⟩
  | .dct ds, v, h => by
    unfold Rep at h ⊢
    obtain ⟨a, xs, e, q, r⟩ := h
    exact ⟨a, xs, e, s _ _ q, RepK.mono s r⟩
  | .obj c ds, v, h => by
    unfold Rep at h ⊢
    obtain ⟨a, ca, dx, xs, e, hc, q, r⟩ := h
    exact ⟨a, ca, dx, xs, e, hc, s _ _ q, RepF.mono s r⟩
  | .exc a ca dd c ds, v, h => by
    unfold Rep at h ⊢
    obtain ⟨e, hc, q⟩ := h
    refine ⟨e, hc, ?_⟩
    rcases q with q | ⟨dx, xs, e2, q, r⟩
    · exact .inl q
    · exact .inr ⟨dx, xs, e2, s _ _ q, RepF.mono s r⟩
theorem RepL.mono (s : Sub F G) : ∀ {ds : List D} {xs : List V}, RepL K C F ds xs → RepL K C G ds xs
  | [], _, h => h
  | d :: ds, xs, h => by
    unfold RepL at h ⊢
    obtain ⟨x, r, e, h1, h2⟩ := h
    exact ⟨x, r, e, Rep.mono s h1, RepL.mono s h2⟩
theorem RepK.mono (s : Sub F G) : ∀ {ds : List (Key × D)} {xs : List (Key × V)}, RepK K C F ds xs → RepK K C G ds xs
  | [], _, h => h
  | (k, d) :: ds, xs, h => by
    unfold RepK at h ⊢
    obtain ⟨x, r, e, h1, h2⟩ := h
    exact ⟨x, r, e, Rep.mono s h1, RepK.mono s h2⟩
theorem RepF.mono (s : Sub F G) : ∀ {ds : List (Str × D)} {xs : List (Str × V)}, RepF K C F ds xs → RepF K C G ds xs
  | [], _, h => h
  | (k, d) :: ds, xs, h => by
    unfold RepF at h ⊢
    obtain ⟨x, r, e, h1, h2⟩ := h
    exact ⟨x, r, e, Rep.mono s h1, RepF.mono s h2⟩
end
theorem RepL.nil : RepL K C F [] [] := by unfold RepL; rfl
theorem RepL.cons {d : D} {v : V} {ds : List D} {xs : List V} (h : Rep K C F d v) (t : RepL K C F ds xs) : RepL K C F (d :: ds) (v :: xs) := by
  unfold RepL; exact ⟨v, xs, rfl, h, t⟩
theorem RepL.len : ∀ {ds : List D} {xs : List V}, RepL K C F ds xs → xs.length = ds.length
  | [], _, h => by unfold RepL at h; rw [h]; rfl
  | d :: ds, _, h => by
    unfold RepL at h
    obtain ⟨x, r, e, _, t⟩ := h
    rw [e, List.length_cons, List.length_cons, t.len]
theorem RepL.get : ∀ {ds : List D} {xs : List V} {i : Nat} {v : V}, RepL K C F ds xs → xs[i]? = some v → ∃ d, ds[i]? = some d ∧ Rep K C F d v
  | [], _, i, v, h, e => by unfold RepL at h; rw [h] at e; simp at e
  | d :: ds, _, 0, v, h, e => by
    unfold RepL at h
    obtain ⟨x, r, e', h1, t⟩ := h
    rw [e'] at e
    have := Option.some.inj e
    exact ⟨d, rfl, this ▸ h1⟩
  | d :: ds, _, i + 1, v, h, e => by
    unfold RepL at h
    obtain ⟨x, r, e', h1, t⟩ := h
    rw [e'] at e
    exact RepL.get (i := i) t e
theorem RepL.at : ∀ {ds : List D} {xs : List V} {i : Nat} {d : D}, RepL K C F ds xs → ds[i]? = some d → ∃ v, xs[i]? = some v ∧ Rep K C F d v
  | [], _, i, v, h, e => by simp at e
  | d :: ds, _, 0, v, h, e => by
    unfold RepL at h
    obtain ⟨x, r, e', h1, t⟩ := h
    subst e'
    have := Option.some.inj e
    exact ⟨x, rfl, this ▸ h1⟩
  | d :: ds, _, i + 1, v, h, e => by
    unfold RepL at h
    obtain ⟨x, r, e', h1, t⟩ := h
    subst e'
    exact RepL.at (i := i) t e
theorem RepL.append : ∀ {ds es : List D} {xs ys : List V}, RepL K C F ds xs → RepL K C F es ys → RepL K C F (ds ++ es) (xs ++ ys)
  | [], _, _, _, h, t => by unfold RepL at h; subst h; exact t
  | d :: ds, _, _, _, h, t => by
    unfold RepL at h
    obtain ⟨x, r, e', h1, h2⟩ := h
    subst e'
    exact RepL.cons h1 (h2.append t)
theorem RepL.set : ∀ {ds : List D} {xs : List V} {d : D} {v : V} (i : Nat), RepL K C F ds xs → Rep K C F d v → RepL K C F (ds.set i d) (xs.set i v)
  | [], _, _, _, _, h, _ => by unfold RepL at h; subst h; exact RepL.nil
  | d :: ds, _, _, _, 0, h, q => by
    unfold RepL at h
    obtain ⟨x, r, e', h1, h2⟩ := h
    subst e'
    exact RepL.cons q h2
  | d :: ds, _, _, _, i + 1, h, q => by
    unfold RepL at h
    obtain ⟨x, r, e', h1, h2⟩ := h
    subst e'
    exact RepL.cons h1 (RepL.set i h2 q)
end

/-- a changing object lies as Mu tells -/
def MRep (K : PySem.W.Frag) (C : CT) (F H : Hp) (a : Addr) : MO → Prop
  | .lst ds => ∃ xs, H a = some (.lst xs) ∧ RepL K C F ds xs
  | .dct ks => ∃ xs, H a = some (.dK xs) ∧ RepK K C F ks xs
  | .ins c fs => ∃ ca dx xs, C.cls c = some ca ∧ H a = some (.ins ca dx xs) ∧ RepF K C F fs xs

/-- F: what never changes any more; Mu: what may change -/
structure Wd (K : PySem.W.Frag) (C : CT) (L F : Hp) (μ : Mu) (H : Hp) : Prop where
  sub : Sub F H
  lk : Sub L H
  mu : ∀ a m, μ a = some m → F a = none ∧ MRep K C F H a m
  ml : ∀ a m, μ a = some m → L a = none
  dj : ∀ a o, L a = some o → F a = none
structure Rl (K : PySem.W.Frag) (C : CT) (L F : Hp) (ρ : Env) (μ : Mu) (σ : St) (H : Hp) : Prop where
  wd : Wd K C L F μ H
  len : ρ.length = σ.length
  env : ∀ (i : Nat) (d : D), ρ[i]? = some (some d) → ∃ v, σ[i]? = some (some v) ∧ Rep K C F d v

section
variable {K : PySem.W.Frag} {C : CT} {L F G H H' : Hp} {μ : Mu} {ρ : Env} {σ : St}
theorem MRep.mono {a : Addr} {m : MO} (s : Sub F G) (h : H a = H' a) (r : MRep K C F H a m) : MRep K C G H' a m := by
  cases m with
  | lst ds => obtain ⟨xs, e, q⟩ := r; exact ⟨xs, h ▸ e, q.mono s⟩
  | dct ds => obtain ⟨xs, e, q⟩ := r; exact ⟨xs, h ▸ e, q.mono s⟩
  | ins c fs => obtain ⟨ca, dx, xs, e0, e, q⟩ := r; exact ⟨ca, dx, xs, e0, h ▸ e, q.mono s⟩
theorem MRep.some {a : Addr} {m : MO} (r : MRep K C F H a m) : ∃ o, H a = some o := by
  cases m with
  | lst ds => obtain ⟨xs, e, q⟩ := r; exact ⟨_, e⟩
  | dct ds => obtain ⟨xs, e, q⟩ := r; exact ⟨_, e⟩
  | ins c fs => obtain ⟨ca, dx, xs, e0, e, q⟩ := r; exact ⟨_, e⟩
theorem Wd.fresh (w : Wd K C L F μ H) {p : Addr} (h : H p = none) : μ p = none ∧ F p = none := by
  constructor
  · cases e : μ p with
    | none => rfl
    | some m =>
      obtain ⟨o, q⟩ := (w.mu p m e).2.some
      rw [h] at q; cases q
  · cases e : F p with
    | none => rfl
    | some m =>
      have := w.sub p m e
      rw [h] at this; cases this
/-- a new object that never changes -/
theorem Wd.frz (w : Wd K C L F μ H) {p : Addr} {o : HO} (h : H p = none) : Wd K C L (upd F p o) μ (upd H p o) where
  sub := fun a u e => by
    by_cases ha : a = p
    · subst ha; rw [upd_same] at e ⊢; exact e
    · rw [upd_ne ha] at e ⊢; exact w.sub a u e
  lk := fun a u e => by rw [upd_ne (ne_of_none (w.lk a u e) h)]; exact w.lk a u e
  ml := w.ml
  dj := fun a u e => by rw [upd_ne (ne_of_none (w.lk a u e) h)]; exact w.dj a u e
  mu := fun a m e => by
    obtain ⟨h1, h2⟩ := w.mu a m e
    have ha : a ≠ p := fun z => by subst z; rw [(w.fresh h).1] at e; cases e
    exact ⟨by rw [upd_ne ha]; exact h1, h2.mono (Sub.new (w.fresh h).2) (by rw [upd_ne ha])⟩
/-- a new object that nobody tracks -/
theorem Wd.junk (w : Wd K C L F μ H) {p : Addr} {o : HO} (h : H p = none) : Wd K C L F μ (upd H p o) where
  sub := fun a u e => by rw [upd_ne (ne_of_none (w.sub a u e) h)]; exact w.sub a u e
  lk := fun a u e => by rw [upd_ne (ne_of_none (w.lk a u e) h)]; exact w.lk a u e
  ml := w.ml
  dj := w.dj
  mu := fun a m e => by
    obtain ⟨h1, h2⟩ := w.mu a m e
    have ha : a ≠ p := fun z => by subst z; rw [(w.fresh h).1] at e; cases e
    exact ⟨h1, h2.mono (Sub.refl _) (by rw [upd_ne ha])⟩
/-- a new object that may change -/
theorem Wd.new (w : Wd K C L F μ H) {p : Addr} {o : HO} {m : MO} (h : H p = none) (r : MRep K C F (upd H p o) p m) : Wd K C L F (mset μ p m) (upd H p o) where
  sub := (w.junk h).sub
  lk := (w.junk h).lk
  dj := w.dj
  ml := fun a m' e => by
    by_cases ha : a = p
    · subst ha
      cases q : L a with
      | none => rfl
      | some u => have := w.lk a u q; rw [h] at this; cases this
    · rw [mset_ne ha] at e
      exact w.ml a m' e
  mu := fun a m' e => by
    by_cases ha : a = p
    · subst ha
      rw [mset_same] at e
      cases e
      exact ⟨(w.fresh h).2, r⟩
    · rw [mset_ne ha] at e
      exact (w.junk h).mu a m' e
/-- an object that changes -/
theorem Wd.put (w : Wd K C L F μ H) {p : Addr} {o : HO} {m0 m : MO} (h : μ p = some m0) (r : MRep K C F (upd H p o) p m) : Wd K C L F (mset μ p m) (upd H p o) where
  sub := fun a u e => by
    have ha : a ≠ p := fun z => by subst z; rw [(w.mu a m0 h).1] at e; cases e
    rw [upd_ne ha]; exact w.sub a u e
  lk := fun a u e => by
    have ha : a ≠ p := fun z => by subst z; rw [w.ml a m0 h] at e; cases e
    rw [upd_ne ha]; exact w.lk a u e
  dj := w.dj
  ml := fun a m' e => by
    by_cases ha : a = p
    · subst ha; exact w.ml a m0 h
    · rw [mset_ne ha] at e
      exact w.ml a m' e
  mu := fun a m' e => by
    by_cases ha : a = p
    · subst ha
      rw [mset_same] at e
      cases e
      exact ⟨(w.mu a m0 h).1, r⟩
    · rw [mset_ne ha] at e
      obtain ⟨h1, h2⟩ := w.mu a m' e
      exact ⟨h1, h2.mono (Sub.refl _) (by rw [upd_ne ha])⟩
/-- locked: a new object that the others don't see -/
theorem Wd.lock (w : Wd K C L F μ H) {p : Addr} {o : HO} (h : H p = none) : Wd K C (upd L p o) F μ (upd H p o) where
  sub := (w.junk h).sub
  mu := (w.junk h).mu
  dj := fun a u e => by
    by_cases ha : a = p
    · subst ha; exact (w.fresh h).2
    · rw [upd_ne ha] at e; exact w.dj a u e
  lk := fun a u e => by
    by_cases ha : a = p
    · subst ha; rw [upd_same] at e ⊢; exact e
    · rw [upd_ne ha] at e ⊢; exact w.lk a u e
  ml := fun a m e => by
    have ha : a ≠ p := fun z => by subst z; rw [(w.fresh h).1] at e; cases e
    rw [upd_ne ha]; exact w.ml a m e
/-- .. it is changed -/
theorem Wd.relock {o : HO} {p : Addr} {u : HO} (w : Wd K C (upd L p o) F μ H) : Wd K C (upd L p u) F μ (upd H p u) where
  dj := fun a v e => by
    by_cases ha : a = p
    · subst ha; exact w.dj a _ upd_same
    · rw [upd_ne ha] at e; exact w.dj a v (by rw [upd_ne ha]; exact e)
  sub := fun a v e => by
    have ha : a ≠ p := fun z => by subst z; rw [w.dj a _ upd_same] at e; cases e
    rw [upd_ne ha]; exact w.sub a v e
  lk := fun a v e => by
    by_cases ha : a = p
    · subst ha; rw [upd_same] at e ⊢; exact e
    · rw [upd_ne ha] at e ⊢
      exact w.lk a v (by rw [upd_ne ha]; exact e)
  ml := fun a m e => by
    have h := w.ml a m e
    by_cases ha : a = p
    · subst ha; rw [upd_same] at h; cases h
    · rw [upd_ne ha] at h ⊢; exact h
  mu := fun a m e => by
    have h := w.ml a m e
    have ha : a ≠ p := fun z => by subst z; rw [upd_same] at h; cases h
    obtain ⟨h1, h2⟩ := w.mu a m e
    exact ⟨h1, h2.mono (Sub.refl _) (by rw [upd_ne ha])⟩
/-- the lock's object handed out: never changed any more -/
theorem Wd.unlockF {o : HO} {p : Addr} (w : Wd K C (upd L p o) F μ H) (hL : L p = none) : Wd K C L (upd F p o) μ H where
  dj := fun a v e => by
    have ha : a ≠ p := fun z => by subst z; rw [hL] at e; cases e
    rw [upd_ne ha]; exact w.dj a v (by rw [upd_ne ha]; exact e)
  sub := fun a v e => by
    by_cases ha : a = p
    · subst ha; rw [upd_same] at e; cases e; exact w.lk a _ upd_same
    · rw [upd_ne ha] at e; exact w.sub a v e
  lk := fun a v e => by
    have ha : a ≠ p := fun z => by subst z; rw [hL] at e; cases e
    exact w.lk a v (by rw [upd_ne ha]; exact e)
  ml := fun a m e => by
    have h := w.ml a m e
    by_cases ha : a = p
    · subst ha; exact hL
    · rw [upd_ne ha] at h; exact h
  mu := fun a m e => by
    have h := w.ml a m e
    have ha : a ≠ p := fun z => by subst z; rw [upd_same] at h; cases h
    obtain ⟨h1, h2⟩ := w.mu a m e
    have hs : Sub F (upd F p o) := fun b u q => by
      by_cases hb : b = p
      · subst hb
        rw [upd_same]
        have := w.sub b u q
        rw [w.lk b _ upd_same] at this
        rw [this]
      · rw [upd_ne hb]; exact q
    exact ⟨by rw [upd_ne ha]; exact h1, h2.mono hs rfl⟩
/-- .. or one that may change -/
theorem Wd.unlockM {o : HO} {p : Addr} {m : MO} (w : Wd K C (upd L p o) F μ H) (hL : L p = none) (r : MRep K C F H p m) : Wd K C L F (mset μ p m) H where
  dj := fun a v e => by
    have ha : a ≠ p := fun z => by subst z; rw [hL] at e; cases e
    exact w.dj a v (by rw [upd_ne ha]; exact e)
  sub := w.sub
  lk := fun a v e => by
    have ha : a ≠ p := fun z => by subst z; rw [hL] at e; cases e
    exact w.lk a v (by rw [upd_ne ha]; exact e)
  ml := fun a m' e => by
    by_cases ha : a = p
    · subst ha; exact hL
    · rw [mset_ne ha] at e
      have h := w.ml a m' e
      rw [upd_ne ha] at h; exact h
  mu := fun a m' e => by
    by_cases ha : a = p
    · subst ha; rw [mset_same] at e; cases e; exact ⟨w.dj a _ upd_same, r⟩
    · rw [mset_ne ha] at e; exact w.mu a m' e
theorem Wd.lockNone {o : HO} {p : Addr} (w : Wd K C (upd L p o) F μ H) : μ p = none := by
  cases e : μ p with
  | none => rfl
  | some m => have h := w.ml p m e; rw [upd_same] at h; cases h
theorem Rl.to {G : Hp} {μ' : Mu} (r : Rl K C L F ρ μ σ H) (s : Sub F G) (w : Wd K C L G μ' H') : Rl K C L G ρ μ' σ H' :=
  ⟨w, r.len, fun i d e => by obtain ⟨v, h1, h2⟩ := r.env i d e; exact ⟨v, h1, h2.mono s⟩⟩
theorem Rl.to' {L' G : Hp} {μ' : Mu} (r : Rl K C L F ρ μ σ H) (s : Sub F G) (w : Wd K C L' G μ' H') : Rl K C L' G ρ μ' σ H' :=
  ⟨w, r.len, fun i d e => by obtain ⟨v, h1, h2⟩ := r.env i d e; exact ⟨v, h1, h2.mono s⟩⟩
theorem Rl.set {d : D} {v : V} (r : Rl K C L F ρ μ σ H) (i : Nat) (h : Rep K C F d v) : Rl K C L F (ρ.set i (some d)) μ (σ.set i (some v)) H :=
  ⟨r.wd, by rw [List.length_set, List.length_set]; exact r.len, fun j d' e => by
    by_cases hj : j = i
    · subst hj
      by_cases hl : j < ρ.length
      · rw [List.getElem?_set_self hl] at e
        cases e
        exact ⟨v, by rw [List.getElem?_set_self (r.len ▸ hl)], h⟩
      · rw [List.getElem?_eq_none (by rw [List.length_set]; omega)] at e
        cases e
    · rw [List.getElem?_set_ne (Ne.symm hj)] at e ⊢
      exact r.env j d' e⟩
end

/-! ### readings over data -/
abbrev PQ := D → Mu → Prop
/-- an exception's class, its attributes -/
abbrev PX := Str → FE → Mu → Prop
abbrev WE := Env → Mu → PQ → PX → Prop
abbrev WA := Env → Mu → (List D → Mu → Prop) → PX → Prop
abbrev WT := Env → Mu → (Bool → Mu → Prop) → PX → Prop
structure KS where
  nx : Env → Mu → Prop
  rt : PQ
  bk : Env → Mu → Prop := fun _ _ => False
  ct : Env → Mu → Prop := fun _ _ => False
  ex : Env → PX
abbrev WS := KS → Env → Mu → Prop

/-- the exception of that class lies so -/
def XRep (K : PySem.W.Frag) (C : CT) (F H : Hp) (c : Str) (fs : FE) (cls : Value) (dx : Option Addr) : Prop :=
  ∃ ca, C.xcls c = some ca ∧ cls = .ref ca ∧ ((fs = [] ∧ dx = none) ∨ ∃ d xs, dx = some d ∧ F d = some (.xd xs) ∧ RepF K C F fs xs)

section
variable (K : PySem.W.Frag) (C : CT)
def upQ (L F : Hp) (Q0 : PQ) (Q : VK) : Prop := ∀ d μ', Q0 d μ' → ∀ F' H' v, Sub F F' → Wd K C L F' μ' H' → Rep K C F' d v → Q v H'
def upX (L F : Hp) (σ : St) (E0 : PX) (W : WX) : Prop := ∀ c fs μ', E0 c fs μ' → ∀ F' H' cls dx, Sub F F' → Wd K C L F' μ' H' → XRep K C F' H' c fs cls dx → W cls dx σ H'
def upE (W : WX) (w : WE) : TE := fun σ H Q => ∃ L F ρ μ Q0 E0, Rl K C L F ρ μ σ H ∧ w ρ μ Q0 E0 ∧ upQ K C L F Q0 Q ∧ upX K C L F σ E0 W
def upT (W : WX) (w : WT) : TT := fun σ H Q => ∃ L F ρ μ Q0 E0, Rl K C L F ρ μ σ H ∧ w ρ μ Q0 E0 ∧ (∀ b μ', Q0 b μ' → ∀ F' H', Sub F F' → Wd K C L F' μ' H' → Q b H') ∧ upX K C L F σ E0 W
def upA (W : WX) (w : WA) : TA := fun σ H Q => ∃ L F ρ μ Q0 E0, Rl K C L F ρ μ σ H ∧ w ρ μ Q0 E0 ∧ (∀ ds μ', Q0 ds μ' → ∀ F' H' vs, Sub F F' → Wd K C L F' μ' H' → RepL K C F' ds vs → Q vs H') ∧ upX K C L F σ E0 W
end
structure UpK (K : PySem.W.Frag) (C : CT) (W : WX) (L F : Hp) (k : KS) (B : Ends) : Prop where
  nx : ∀ ρ' μ', k.nx ρ' μ' → ∀ F' σ' H', Sub F F' → Rl K C L F' ρ' μ' σ' H' → B.nx σ' H'
  bk : ∀ ρ' μ', k.bk ρ' μ' → ∀ F' σ' H', Sub F F' → Rl K C L F' ρ' μ' σ' H' → B.bk σ' H'
  ct : ∀ ρ' μ', k.ct ρ' μ' → ∀ F' σ' H', Sub F F' → Rl K C L F' ρ' μ' σ' H' → B.ct σ' H'
  rt : ∀ d μ', k.rt d μ' → ∀ F' H' v, Sub F F' → Wd K C L F' μ' H' → Rep K C F' d v → B.rt v H'
  ex : ∀ c fs ρ' μ', k.ex ρ' c fs μ' → ∀ F' σ' H' cls dx, Sub F F' → Rl K C L F' ρ' μ' σ' H' → XRep K C F' H' c fs cls dx → W cls dx σ' H'
def upS (K : PySem.W.Frag) (C : CT) (W : WX) (w : WS) : TS := fun B σ H => ∃ L F ρ μ k, Rl K C L F ρ μ σ H ∧ w k ρ μ ∧ UpK K C W L F k B
end T2

set_option maxRecDepth 100000
set_option maxHeartbeats 4000000
namespace T2
open PySem PySem.Spec PyProof.Rows L2

theorem PE.imp {X : Cx} {e : Expr} {t t' : TE} (h : PE X e t) (i : ∀ σ H Q, t' σ H Q → t σ H Q) : PE X e t' := ⟨fun pins s σ H Q I q => h.run pins s σ H Q I (i σ H Q q)⟩
theorem PT.imp {X : Cx} {e : Expr} {t t' : TT} (h : PT X e t) (i : ∀ σ H Q, t' σ H Q → t σ H Q) : PT X e t' := ⟨fun pins s σ H Q I q => h.run pins s σ H Q I (i σ H Q q)⟩
theorem PW.imp {X : Cx} {e : Expr} {t t' : TT} (h : PW X e t) (i : ∀ σ H Q, t' σ H Q → t σ H Q) : PW X e t' := ⟨fun wh pins s σ H Q I q => h.run wh pins s σ H Q I (i σ H Q q)⟩
theorem PA.imp {X : Cx} {e : List Expr} {t t' : TA} (h : PA X e t) (i : ∀ σ H Q, t' σ H Q → t σ H Q) : PA X e t' := ⟨fun pos pins s σ H Q I q => h.run pos pins s σ H Q I (i σ H Q q)⟩
theorem PS.imp {X : Cx} {e : Stmt} {t t' : TS} (h : PS X e t) (i : ∀ B σ H, t' B σ H → t B σ H) : PS X e t' := ⟨fun pins s σ H B I q => h.run pins s σ H B I (i B σ H q)⟩
theorem PSs.imp {X : Cx} {e : List Stmt} {t t' : TS} (h : PSs X e t) (i : ∀ B σ H, t' B σ H → t B σ H) : PSs X e t' := ⟨fun pins s σ H B I q => h.run pins s σ H B I (i B σ H q)⟩
theorem OpR.imp {X : Cx} {f : Value → Value → Sem Value} {r r' : R2} (h : OpR X f r) (i : ∀ x y H Q, r' x y H Q → r x y H Q) : OpR X f r' := fun pins s σ H x y v u Q I rx ry q => h pins s σ H x y v u Q I rx ry (i _ _ _ _ q)

/-! ### lists, dicts by value -/
def getM (μ : Mu) : D → Option (List D)
  | .lst ds => some ds
  | .raw a => match μ a with
    | some (.lst ds) => some ds
    | _ => none
  | _ => none
def getL (μ : Mu) : D → Option (List D)
  | .lst ds => some ds
  | .scr ds => some ds
  | .raw a => match μ a with
    | some (.lst ds) => some ds
    | _ => none
  | _ => none
def getS (μ : Mu) : D → Option (List D)
  | .tup ds => some ds
  | d => getL μ d
def getK (μ : Mu) : D → Option (List (Key × D))
  | .dct ks => some ks
  | .raw a => match μ a with
    | some (.dct ks) => some ks
    | _ => none
  | _ => none
def truth (μ : Mu) : D → Option Bool
  | .non => some false
  | .bl b => some b
  | .int i => some (i != 0)
  | .str s => some ((s.length : Int) != 0)
  | .tup ds => some (!ds.isEmpty)
  | .dct ks => some (!ks.isEmpty)
  | d => match getL μ d with
    | some ds => some (!ds.isEmpty)
    | none => match getK μ d with
      | some ks => some (!ks.isEmpty)
      | none => none

section
variable {K : PySem.W.Frag} {C : CT} {F H : Hp} {μ : Mu} {d : D} {v : V}
theorem Rep.lst {ds : List D} (h : Rep K C F (.lst ds) v) : ∃ a xs, v = .ref a ∧ F a = some (.lst xs) ∧ RepL K C F ds xs := by unfold Rep at h; exact h
theorem Rep.scr {ds : List D} (h : Rep K C F (.scr ds) v) : ∃ a xs, v = .ref a ∧ SqL K F a xs ∧ RepL K C F ds xs := by unfold Rep at h; exact h
theorem Rep.tup {ds : List D} (h : Rep K C F (.tup ds) v) : ∃ a xs, v = .ref a ∧ SqT K F a xs ∧ RepL K C F ds xs := by unfold Rep at h; exact h
theorem Rep.raw {a : Addr} (h : Rep K C F (.raw a) v) : v = .ref a := by unfold Rep at h; exact h
theorem Rep.int {i : Int} (h : Rep K C F (.int i) v) : v = .int i := by unfold Rep at h; exact h
theorem Rep.str {i : Str} (h : Rep K C F (.str i) v) : v = .str i := by unfold Rep at h; exact h
theorem Rep.bl {i : Bool} (h : Rep K C F (.bl i) v) : v = .bl i := by unfold Rep at h; exact h
theorem Rep.non (h : Rep K C F .non v) : v = .non := by unfold Rep at h; exact h
theorem Rep.dct {ks : List (Key × D)} (h : Rep K C F (.dct ks) v) : ∃ a xs, v = .ref a ∧ F a = some (.dK xs) ∧ RepK K C F ks xs := by unfold Rep at h; exact h
theorem Rep.ofInt {i : Int} : Rep K C F (.int i) (.int i) := by unfold Rep; rfl
theorem Rep.ofStr {i : Str} : Rep K C F (.str i) (.str i) := by unfold Rep; rfl
theorem Rep.ofBl {i : Bool} : Rep K C F (.bl i) (.bl i) := by unfold Rep; rfl
theorem Rep.ofNon : Rep K C F .non .non := by unfold Rep; rfl
theorem Rep.ofRaw {a : Addr} : Rep K C F (.raw a) (.ref a) := by unfold Rep; rfl
theorem Rep.ofLst {ds : List D} {a : Addr} {xs : List V} (h : F a = some (.lst xs)) (r : RepL K C F ds xs) : Rep K C F (.lst ds) (.ref a) := by unfold Rep; exact ⟨a, xs, rfl, h, r⟩
theorem Rep.ofTup {ds : List D} {a : Addr} {xs : List V} (h : SqT K F a xs) (r : RepL K C F ds xs) : Rep K C F (.tup ds) (.ref a) := by unfold Rep; exact ⟨a, xs, rfl, h, r⟩
theorem Rep.ofDct {ks : List (Key × D)} {a : Addr} {xs : List (Key × V)} (h : F a = some (.dK xs)) (r : RepK K C F ks xs) : Rep K C F (.dct ks) (.ref a) := by unfold Rep; exact ⟨a, xs, rfl, h, r⟩
theorem Wd.raw {a : Addr} {ds : List D} (w : Wd K C L F μ H) (h : μ a = some (.lst ds)) : ∃ xs, H a = some (.lst xs) ∧ RepL K C F ds xs := (w.mu a _ h).2
theorem Wd.rawK {a : Addr} {ks : List (Key × D)} (w : Wd K C L F μ H) (h : μ a = some (.dct ks)) : ∃ xs, H a = some (.dK xs) ∧ RepK K C F ks xs := (w.mu a _ h).2
theorem Wd.getL {ds : List D} (w : Wd K C L F μ H) (r : Rep K C F d v) (h : T2.getL μ d = some ds) : ∃ a xs, v = .ref a ∧ SqL K H a xs ∧ RepL K C F ds xs := by
  cases d with
  | lst es =>
    cases h
    obtain ⟨a, xs, e, q, r⟩ := r.lst
    exact ⟨a, xs, e, .of (w.sub _ _ q), r⟩
  | scr es =>
    cases h
    obtain ⟨a, xs, e, q, r⟩ := r.scr
    exact ⟨a, xs, e, w.sub.sqL q, r⟩
  | raw a =>
    simp only [T2.getL] at h
    split at h
    · rename_i es e
      cases h
      obtain ⟨xs, e1, e2⟩ := w.raw e
      exact ⟨a, xs, r.raw, .of e1, e2⟩
    · cases h
  | _ => cases h
theorem Wd.getM {ds : List D} (w : Wd K C L F μ H) (r : Rep K C F d v) (h : T2.getM μ d = some ds) : ∃ a xs, v = .ref a ∧ H a = some (.lst xs) ∧ RepL K C F ds xs := by
  cases d with
  | lst es =>
    cases h
    obtain ⟨a, xs, e, q, r⟩ := r.lst
    exact ⟨a, xs, e, w.sub _ _ q, r⟩
  | raw a =>
    simp only [T2.getM] at h
    split at h
    · rename_i es e
      cases h
      obtain ⟨xs, e1, e2⟩ := w.raw e
      exact ⟨a, xs, r.raw, e1, e2⟩
    · cases h
  | _ => cases h
theorem Wd.getS {ds : List D} (w : Wd K C L F μ H) (r : Rep K C F d v) (h : T2.getS μ d = some ds) : ∃ a xs, v = .ref a ∧ (SqL K H a xs ∨ SqT K H a xs) ∧ RepL K C F ds xs := by
  cases d with
  | tup es =>
    cases h
    obtain ⟨a, xs, e, q, r⟩ := r.tup
    exact ⟨a, xs, e, .inr (w.sub.sqT q), r⟩
  | lst es => obtain ⟨a, xs, e, q, r⟩ := w.getL r h; exact ⟨a, xs, e, .inl q, r⟩
  | raw a => obtain ⟨a, xs, e, q, r⟩ := w.getL r h; exact ⟨a, xs, e, .inl q, r⟩
  | scr a => obtain ⟨a, xs, e, q, r⟩ := w.getL r h; exact ⟨a, xs, e, .inl q, r⟩
  | _ => cases h
theorem Wd.getK {ks : List (Key × D)} (w : Wd K C L F μ H) (r : Rep K C F d v) (h : T2.getK μ d = some ks) : ∃ a xs, v = .ref a ∧ H a = some (.dK xs) ∧ RepK K C F ks xs := by
  cases d with
  | dct es =>
    cases h
    obtain ⟨a, xs, e, q, r⟩ := r.dct
    exact ⟨a, xs, e, w.sub _ _ q, r⟩
  | raw a =>
    simp only [T2.getK] at h
    split at h
    · rename_i es e
      cases h
      obtain ⟨xs, e1, e2⟩ := w.rawK e
      exact ⟨a, xs, r.raw, e1, e2⟩
    · cases h
  | _ => cases h
theorem RepL.isEmpty {ds : List D} {xs : List V} (r : RepL K C F ds xs) : xs.isEmpty = ds.isEmpty := by
  have := r.len
  cases ds <;> cases xs <;> simp_all
theorem RepK.len : ∀ {ds : List (Key × D)} {xs : List (Key × V)}, RepK K C F ds xs → xs.length = ds.length
  | [], _, h => by unfold RepK at h; rw [h]; rfl
  | (k, d) :: ds, _, h => by
    unfold RepK at h
    obtain ⟨x, r, e, _, t⟩ := h
    rw [e, List.length_cons, List.length_cons, t.len]
theorem RepK.isEmpty {ds : List (Key × D)} {xs : List (Key × V)} (r : RepK K C F ds xs) : xs.isEmpty = ds.isEmpty := by
  have := r.len
  cases ds <;> cases xs <;> simp_all
end

/-! ### what a context gives -/
/-- N: the slots; sc: the names' kinds; k: how many calls deep it may still go; W: what is wished of an exception -/
structure XOk (X : Cx) (N : List Str) (sc : Scope) (k : Nat) (W : WX) : Prop where
  eN : X.N = N
  eS : X.env.scope = sc
  nd : N.Nodup
  calm : X.calm = true
  room : Room k X.A
  tk : Takes X W

section
variable {X : Cx} {C : CT} {W : WX} {a b c : Expr} {wa wb wc : WE} {pos : Pos}
/-! ### names, constants -/
def wVar (i : Nat) : WE := fun ρ μ Q _ => ∃ d, ρ[i]? = some (some d) ∧ Q d μ
def wC (d : D) : WE := fun _ μ Q _ => Q d μ
theorem up_var {i : Nat} {x : Str} (h : PE X (.Name x pos) (tVar i)) : PE X (.Name x pos) (upE X.K C W (wVar i)) := PE.imp h fun σ H Q ⟨L, F, ρ, μ, Q0, E0, r, ⟨d, e, q⟩, uq, _⟩ => by
  obtain ⟨v, e1, e2⟩ := r.env i d e
  exact ⟨v, e1, uq d μ q F H v (Sub.refl F) r.wd e2⟩
theorem up_c {d : D} {v : V} (h : PE X a (tC v)) (hr : ∀ F, Rep X.K C F d v) : PE X a (upE X.K C W (wC d)) := PE.imp h fun σ H Q ⟨L, F, ρ, μ, Q0, E0, r, q, uq, _⟩ =>
  uq d μ q F H v (Sub.refl F) r.wd (hr F)

/-! ### two-place operations -/
abbrev G2 := D → D → Mu → PQ → Prop
def OpD (X : Cx) (C : CT) (f : Value → Value → Sem Value) (g : G2) : Prop :=
  ∃ r : R2, OpR X f r ∧ ∀ L F μ H x y v u Q0 Q, Wd X.K C L F μ H → Rep X.K C F x v → Rep X.K C F y u → g x y μ Q0 → upQ X.K C L F Q0 Q → r v u H Q
def wOp (g : G2) (wa wb : WE) : WE := fun ρ μ Q E => wa ρ μ (fun x μ1 => wb ρ μ1 (fun y μ2 => g x y μ2 Q) E) E
theorem upX.mono {K : PySem.W.Frag} {F F' : Hp} {σ : St} {E0 : PX} (s : Sub F F') (h : upX K C L F σ E0 W) : upX K C L F' σ E0 W := fun c fs μ' q G H' cls dx s' => h c fs μ' q G H' cls dx (s.trans s')
theorem upQ.mono {K : PySem.W.Frag} {F F' : Hp} {Q0 : PQ} {Q : VK} (s : Sub F F') (h : upQ K C L F Q0 Q) : upQ K C L F' Q0 Q := fun c μ' q G H' v s' => h c μ' q G H' v (s.trans s')
theorem up_two {r : R2} {g : G2} (hr : ∀ L F μ H x y v u Q0 Q, Wd X.K C L F μ H → Rep X.K C F x v → Rep X.K C F y u → g x y μ Q0 → upQ X.K C L F Q0 Q → r v u H Q) :
    ∀ σ H Q, upE X.K C W (wOp g wa wb) σ H Q → tOp r (upE X.K C W wa) (upE X.K C W wb) σ H Q := fun σ H Q ⟨L, F, ρ, μ, Q0, E0, rl, q, uq, ux⟩ => by
  refine ⟨L, F, ρ, μ, _, E0, rl, q, fun d1 μ1 q1 F1 H1 v1 s1 w1 r1 => ?_, ux⟩
  refine ⟨L, F1, ρ, μ1, _, E0, rl.to s1 w1, q1, fun d2 μ2 q2 F2 H2 v2 s2 w2 r2 => ?_, ux.mono s1⟩
  exact hr L F2 μ2 H2 d1 d2 v1 v2 Q0 Q w2 (r1.mono s2) r2 q2 (uq.mono (s1.trans s2))
theorem up_op {op : Operator} {g : G2} (ho : OpD X C (binaryOp op) g) (ha : PE X a (upE X.K C W wa)) (hb : PE X b (upE X.K C W wb)) : PE X (.BinOp a op b pos) (upE X.K C W (wOp g wa wb)) := by
  obtain ⟨r, h1, h2⟩ := ho
  exact PE.imp (pe_op h1 ha hb) (up_two h2)
theorem up_cmp {op : CmpOp} {g : G2} (ho : OpD X C (compareOp op) g) (ha : PE X a (upE X.K C W wa)) (hb : PE X b (upE X.K C W wb)) (hm : behindInMarks op b = false) : PE X (.Compare a [op] [b] pos) (upE X.K C W (wOp g wa wb)) := by
  obtain ⟨r, h1, h2⟩ := ho
  exact PE.imp (pe_cmpR h1 ha hb hm) (up_two h2)
/-- a test by a value that is a bool -/
def wTB (w : WE) : WT := fun ρ μ Q E => w ρ μ (fun d μ' => ∃ b, d = .bl b ∧ Q b μ') E
theorem upT_of {w : WE} {e : Expr} {t : TE} (h : PT X e (tTest t)) (i : ∀ σ H Q, upE X.K C W w σ H Q → t σ H Q) : PT X e (upT X.K C W (wTB w)) := PT.imp h fun σ H Q ⟨L, F, ρ, μ, Q0, E0, rl, q, uq, ux⟩ => by
  refine i σ H _ ⟨L, F, ρ, μ, _, E0, rl, q, fun d1 μ1 q1 F1 H1 v1 s1 w1 r1 => ?_, ux⟩
  obtain ⟨b, e, q⟩ := q1
  subst e
  exact ⟨b, r1.bl, uq b μ1 q F1 H1 s1 w1⟩
theorem upT_cmp {op : CmpOp} {g : G2} (ho : OpD X C (compareOp op) g) (ha : PE X a (upE X.K C W wa)) (hb : PE X b (upE X.K C W wb)) (hm : behindInMarks op b = false) : PT X (.Compare a [op] [b] pos) (upT X.K C W (wTB (wOp g wa wb))) := by
  obtain ⟨r, h1, h2⟩ := ho
  exact upT_of (pt_cmpR h1 ha hb hm) (up_two h2)
/-- a op b op' c -/
def wChain (g g' : G2) (wa wb wc : WE) : WE := fun ρ μ Q E => wa ρ μ (fun x μ1 => wb ρ μ1 (fun y μ2 => g x y μ2 fun z μ3 => ∃ k, z = .bl k ∧ (k = true → wc ρ μ3 (fun u μ4 => g' y u μ4 Q) E) ∧ (k = false → Q (.bl false) μ3)) E) E
theorem up_chain0 {r r' : R2} {g g' : G2} (hr : ∀ L F μ H x y v u Q0 Q, Wd X.K C L F μ H → Rep X.K C F x v → Rep X.K C F y u → g x y μ Q0 → upQ X.K C L F Q0 Q → r v u H Q)
    (hr' : ∀ L F μ H x y v u Q0 Q, Wd X.K C L F μ H → Rep X.K C F x v → Rep X.K C F y u → g' x y μ Q0 → upQ X.K C L F Q0 Q → r' v u H Q) :
    ∀ σ H Q, upE X.K C W (wChain g g' wa wb wc) σ H Q → tChain r r' (upE X.K C W wa) (upE X.K C W wb) (upE X.K C W wc) σ H Q := fun σ H Q ⟨L, F, ρ, μ, Q0, E0, rl, q, uq, ux⟩ => by
  refine ⟨L, F, ρ, μ, _, E0, rl, q, fun d1 μ1 q1 F1 H1 v1 s1 w1 r1 => ?_, ux⟩
  refine ⟨L, F1, ρ, μ1, _, E0, rl.to s1 w1, q1, fun d2 μ2 q2 F2 H2 v2 s2 w2 r2 => ?_, ux.mono s1⟩
  refine hr L F2 μ2 H2 d1 d2 v1 v2 _ _ w2 (r1.mono s2) r2 q2 fun d3 μ3 q3 F3 H3 v3 s3 w3 r3 => ?_
  obtain ⟨k, e, qt, qf⟩ := q3
  subst e
  refine ⟨k, r3.bl, ?_⟩
  cases k with
  | false => exact uq _ _ (qf rfl) F3 H3 _ ((s1.trans s2).trans s3) w3 .ofBl
  | true =>
    refine ⟨L, F3, ρ, μ3, _, E0, rl.to ((s1.trans s2).trans s3) w3, qt rfl, fun d4 μ4 q4 F4 H4 v4 s4 w4 r4 => ?_, ux.mono ((s1.trans s2).trans s3)⟩
    exact hr' L F4 μ4 H4 d2 d4 v2 v4 Q0 Q w4 ((r2.mono s3).mono s4) r4 q4 (uq.mono (((s1.trans s2).trans s3).trans s4))
theorem up_chain {op op' : CmpOp} {g g' : G2} (ho : OpD X C (compareOp op) g) (ho' : OpD X C (compareOp op') g') (ha : PE X a (upE X.K C W wa)) (hb : PE X b (upE X.K C W wb)) (hc : PE X c (upE X.K C W wc)) (hm : lastMarks [op, op'] [b, c] = false) :
    PE X (.Compare a [op, op'] [b, c] pos) (upE X.K C W (wChain g g' wa wb wc)) := by
  obtain ⟨r, h1, h2⟩ := ho
  obtain ⟨r', h1', h2'⟩ := ho'
  exact PE.imp (pe_chain h1 h1' ha hb hc hm) (up_chain0 h2 h2')
theorem upT_chain {op op' : CmpOp} {g g' : G2} (ho : OpD X C (compareOp op) g) (ho' : OpD X C (compareOp op') g') (ha : PE X a (upE X.K C W wa)) (hb : PE X b (upE X.K C W wb)) (hc : PE X c (upE X.K C W wc)) (hm : lastMarks [op, op'] [b, c] = false) :
    PT X (.Compare a [op, op'] [b, c] pos) (upT X.K C W (wTB (wChain g g' wa wb wc))) := by
  obtain ⟨r, h1, h2⟩ := ho
  obtain ⟨r', h1', h2'⟩ := ho'
  exact upT_of (pt_chain h1 h1' ha hb hc hm) (up_chain0 h2 h2')
end
end T2

set_option maxRecDepth 100000
set_option maxHeartbeats 4000000
namespace T2
open PySem PySem.Spec PyProof.Rows L2
section
variable {X : Cx} {C : CT} {W : WX} {a b c : Expr} {wa wb wc : WE} {ta tb tc : WT} {pos : Pos} {rest : List Expr}

/-! ### truth -/
def truthOk (μ : Mu) (d : D) (b : Bool) : Prop := truth μ d = some b ∧ ∀ s, d = .str s → s.length ≤ sizeLine
def wTru (w : WE) : WT := fun ρ μ Q E => w ρ μ (fun d μ' => ∃ b, truthOk μ' d b ∧ Q b μ') E
theorem upT_tru0 {K : PySem.W.Frag} {F : Hp} {μ : Mu} {H : Hp} {d : D} {v : V} {b : Bool} (wd : Wd K C L F μ H) (r : Rep K C F d v) (h : truthOk μ d b) : TruV K v H b := by
  obtain ⟨h, hs⟩ := h
  cases d with
  | non => cases h; rw [r.non]; rfl
  | bl b => cases h; rw [r.bl]; rfl
  | int i => cases h; rw [r.int]; rfl
  | str s => cases h; rw [r.str]; exact ⟨hs s rfl, rfl⟩
  | tup ds =>
    cases h
    obtain ⟨a, xs, e, q, r⟩ := r.tup
    rw [e, ← r.isEmpty]
    exact .inr (.inl ⟨xs, wd.sub.sqT q, rfl⟩)
  | dct ks =>
    cases h
    obtain ⟨a, xs, e, q, r⟩ := r.dct
    rw [e, ← r.isEmpty]
    exact .inr (.inr ⟨xs, wd.sub _ _ q, rfl⟩)
  | lst ds =>
    cases h
    obtain ⟨a, xs, e, q, r⟩ := r.lst
    rw [e, ← r.isEmpty]
    exact .inl ⟨xs, .of (wd.sub _ _ q), rfl⟩
  | scr ds =>
    cases h
    obtain ⟨a, xs, e, q, r⟩ := r.scr
    rw [e, ← r.isEmpty]
    exact .inl ⟨xs, wd.sub.sqL q, rfl⟩
  | obj c fs => simp [truth, getL, getK] at h
  | exc a ca dx c fs => simp [truth, getL, getK] at h
  | raw a =>
    simp only [truth] at h
    split at h
    · rename_i ds e
      cases h
      obtain ⟨a', xs, e', q, r'⟩ := wd.getL r e
      rw [e', ← r'.isEmpty]
      exact .inl ⟨xs, q, rfl⟩
    · split at h
      · rename_i ds e
        cases h
        obtain ⟨a', xs, e', q, r'⟩ := wd.getK r e
        rw [e', ← r'.isEmpty]
        exact .inr (.inr ⟨xs, q, rfl⟩)
      · cases h
theorem upT_tru (ha : PE X a (upE X.K C W wa)) (he : ∀ whole, isTrue a X.env whole = (do let v ← whole; standAt a.pos; holding [v] (truthy v))) : PT X a (upT X.K C W (wTru wa)) :=
  PT.imp (pt_truth ha he) fun σ H Q ⟨L, F, ρ, μ, Q0, E0, rl, q, uq, ux⟩ => by
    refine ⟨L, F, ρ, μ, _, E0, rl, q, fun d1 μ1 q1 F1 H1 v1 s1 w1 r1 => ?_, ux⟩
    obtain ⟨b, hb, q⟩ := q1
    exact ⟨b, upT_tru0 w1 r1 hb, uq b μ1 q F1 H1 s1 w1⟩
def wNotT (t : WT) : WT := fun ρ μ Q E => t ρ μ (fun b μ' => Q (!b) μ') E
theorem upT_not (h : PT X a (upT X.K C W ta)) : PT X (.UnaryOp .Not a pos) (upT X.K C W (wNotT ta)) :=
  PT.imp (pt_not h) fun σ H Q ⟨L, F, ρ, μ, Q0, E0, rl, q, uq, ux⟩ => ⟨L, F, ρ, μ, _, E0, rl, q, fun b μ1 q1 F1 H1 s1 w1 => uq (!b) μ1 q1 F1 H1 s1 w1, ux⟩
def wAndT (t u : WT) : WT := fun ρ μ Q E => t ρ μ (fun b μ' => (b = true → u ρ μ' Q E) ∧ (b = false → Q false μ')) E
def wOrT (t u : WT) : WT := fun ρ μ Q E => t ρ μ (fun b μ' => (b = true → Q true μ') ∧ (b = false → u ρ μ' Q E)) E
theorem upT_and1 (h : PT X a (upT X.K C W ta)) : PW X (.BoolOp .And [a] pos) (upT X.K C W ta) := pw_and1 h
theorem upT_or1 (h : PT X a (upT X.K C W ta)) : PW X (.BoolOp .Or [a] pos) (upT X.K C W ta) := pw_or1 h
theorem upT_and (h : PT X a (upT X.K C W ta)) (h2 : PW X (.BoolOp .And (b :: rest) pos) (upT X.K C W tb)) : PW X (.BoolOp .And (a :: b :: rest) pos) (upT X.K C W (wAndT ta tb)) :=
  PW.imp (pw_and h h2) fun σ H Q ⟨L, F, ρ, μ, Q0, E0, rl, q, uq, ux⟩ => by
    refine ⟨L, F, ρ, μ, _, E0, rl, q, fun k μ1 q1 F1 H1 s1 w1 => ?_, ux⟩
    cases k with
    | true => exact ⟨L, F1, ρ, μ1, Q0, E0, rl.to s1 w1, q1.1 rfl, fun k2 μ2 q2 F2 H2 s2 w2 => uq k2 μ2 q2 F2 H2 (s1.trans s2) w2, ux.mono s1⟩
    | false => exact uq false μ1 (q1.2 rfl) F1 H1 s1 w1
theorem upT_or (h : PT X a (upT X.K C W ta)) (h2 : PW X (.BoolOp .Or (b :: rest) pos) (upT X.K C W tb)) : PW X (.BoolOp .Or (a :: b :: rest) pos) (upT X.K C W (wOrT ta tb)) :=
  PW.imp (pw_or h h2) fun σ H Q ⟨L, F, ρ, μ, Q0, E0, rl, q, uq, ux⟩ => by
    refine ⟨L, F, ρ, μ, _, E0, rl, q, fun k μ1 q1 F1 H1 s1 w1 => ?_, ux⟩
    cases k with
    | false => exact ⟨L, F1, ρ, μ1, Q0, E0, rl.to s1 w1, q1.2 rfl, fun k2 μ2 q2 F2 H2 s2 w2 => uq k2 μ2 q2 F2 H2 (s1.trans s2) w2, ux.mono s1⟩
    | true => exact uq true μ1 (q1.1 rfl) F1 H1 s1 w1
/-! .. as values -/
def wAnd (wa wb : WE) : WE := fun ρ μ Q E => wa ρ μ (fun x μ1 => ∃ k, truthOk μ1 x k ∧ (k = true → wb ρ μ1 Q E) ∧ (k = false → Q x μ1)) E
def wOr (wa wb : WE) : WE := fun ρ μ Q E => wa ρ μ (fun x μ1 => ∃ k, truthOk μ1 x k ∧ (k = true → Q x μ1) ∧ (k = false → wb ρ μ1 Q E)) E
def wNot (wa : WE) : WE := fun ρ μ Q E => wa ρ μ (fun x μ1 => ∃ k, truthOk μ1 x k ∧ Q (.bl (!k)) μ1) E
def wIf (t : WT) (wa wb : WE) : WE := fun ρ μ Q E => t ρ μ (fun k μ1 => (k = true → wa ρ μ1 Q E) ∧ (k = false → wb ρ μ1 Q E)) E
theorem up_bool1 {op} (h : PE X a (upE X.K C W wa)) : PE X (.BoolOp op [a] pos) (upE X.K C W wa) := pe_one h
theorem up_and (h : PE X a (upE X.K C W wa)) (h2 : PE X (.BoolOp .And (b :: rest) pos) (upE X.K C W wb)) : PE X (.BoolOp .And (a :: b :: rest) pos) (upE X.K C W (wAnd wa wb)) :=
  PE.imp (pe_andT h h2) fun σ H Q ⟨L, F, ρ, μ, Q0, E0, rl, q, uq, ux⟩ => by
    refine ⟨L, F, ρ, μ, _, E0, rl, q, fun d1 μ1 q1 F1 H1 v1 s1 w1 r1 => ?_, ux⟩
    obtain ⟨k, hk, qt, qf⟩ := q1
    refine ⟨k, upT_tru0 w1 r1 hk, ?_⟩
    cases k with
    | true => exact ⟨L, F1, ρ, μ1, Q0, E0, rl.to s1 w1, qt rfl, uq.mono s1, ux.mono s1⟩
    | false => exact uq _ _ (qf rfl) F1 H1 v1 s1 w1 r1
theorem up_or (h : PE X a (upE X.K C W wa)) (h2 : PE X (.BoolOp .Or (b :: rest) pos) (upE X.K C W wb)) : PE X (.BoolOp .Or (a :: b :: rest) pos) (upE X.K C W (wOr wa wb)) :=
  PE.imp (pe_orT h h2) fun σ H Q ⟨L, F, ρ, μ, Q0, E0, rl, q, uq, ux⟩ => by
    refine ⟨L, F, ρ, μ, _, E0, rl, q, fun d1 μ1 q1 F1 H1 v1 s1 w1 r1 => ?_, ux⟩
    obtain ⟨k, hk, qt, qf⟩ := q1
    refine ⟨k, upT_tru0 w1 r1 hk, ?_⟩
    cases k with
    | false => exact ⟨L, F1, ρ, μ1, Q0, E0, rl.to s1 w1, qf rfl, uq.mono s1, ux.mono s1⟩
    | true => exact uq _ _ (qt rfl) F1 H1 v1 s1 w1 r1
theorem up_not (h : PE X a (upE X.K C W wa)) : PE X (.UnaryOp .Not a pos) (upE X.K C W (wNot wa)) :=
  PE.imp (pe_notT h) fun σ H Q ⟨L, F, ρ, μ, Q0, E0, rl, q, uq, ux⟩ => by
    refine ⟨L, F, ρ, μ, _, E0, rl, q, fun d1 μ1 q1 F1 H1 v1 s1 w1 r1 => ?_, ux⟩
    obtain ⟨k, hk, q⟩ := q1
    exact ⟨k, upT_tru0 w1 r1 hk, uq _ _ q F1 H1 _ s1 w1 .ofBl⟩
theorem up_if (h : PT X c (upT X.K C W tc)) (ha : PE X a (upE X.K C W wa)) (hb : PE X b (upE X.K C W wb)) : PE X (.IfExp c a b pos) (upE X.K C W (wIf tc wa wb)) :=
  PE.imp (pe_ifExp h ha hb) fun σ H Q ⟨L, F, ρ, μ, Q0, E0, rl, q, uq, ux⟩ => by
    refine ⟨L, F, ρ, μ, _, E0, rl, q, fun k μ1 q1 F1 H1 s1 w1 => ?_, ux⟩
    cases k with
    | true => exact ⟨L, F1, ρ, μ1, Q0, E0, rl.to s1 w1, q1.1 rfl, uq.mono s1, ux.mono s1⟩
    | false => exact ⟨L, F1, ρ, μ1, Q0, E0, rl.to s1 w1, q1.2 rfl, uq.mono s1, ux.mono s1⟩

/-! ### argument lists, displays -/
variable {es : List Expr} {was : WA}
def wNil : WA := fun _ μ Q _ => Q [] μ
def wCons (wa : WE) (was : WA) : WA := fun ρ μ Q E => wa ρ μ (fun x μ1 => was ρ μ1 (fun xs μ2 => Q (x :: xs) μ2) E) E
theorem up_nil : PA X [] (upA X.K C W wNil) := PA.imp pa_nil fun σ H Q ⟨L, F, ρ, μ, Q0, E0, rl, q, uq, ux⟩ => uq [] μ q F H [] (Sub.refl F) rl.wd .nil
theorem up_cons (ha : PE X a (upE X.K C W wa)) (hr : PA X es (upA X.K C W was)) (hs : starEach (a :: es) X.env = (false, eval a X.env) :: starEach es X.env) : PA X (a :: es) (upA X.K C W (wCons wa was)) :=
  PA.imp (pa_cons ha hr hs) fun σ H Q ⟨L, F, ρ, μ, Q0, E0, rl, q, uq, ux⟩ => by
    refine ⟨L, F, ρ, μ, _, E0, rl, q, fun d1 μ1 q1 F1 H1 v1 s1 w1 r1 => ?_, ux⟩
    refine ⟨L, F1, ρ, μ1, _, E0, rl.to s1 w1, q1, fun ds μ2 q2 F2 H2 vs s2 w2 r2 => ?_, ux.mono s1⟩
    exact uq (d1 :: ds) μ2 q2 F2 H2 (v1 :: vs) (s1.trans s2) w2 (.cons (r1.mono s2) r2)
/-- (a, b, ..) -/
def wTup (was : WA) : WE := fun ρ μ Q E => was ρ μ (fun ds μ' => ds.length ≤ sizeLine ∧ Q (.tup ds) μ') E
/-- [a, b, ..], never changed -/
def wLst (was : WA) : WE := fun ρ μ Q E => was ρ μ (fun ds μ' => ds.length ≤ sizeLine ∧ Q (.lst ds) μ') E
/-- .. that may change -/
def wLstM (was : WA) : WE := fun ρ μ Q E => was ρ μ (fun ds μ' => ds.length ≤ sizeLine ∧ ∀ a, μ' a = none → Q (.raw a) (mset μ' a (.lst ds))) E
theorem up_tup {k} (h : PA X es (upA X.K C W was)) : PE X (.Tuple es k pos) (upE X.K C W (wTup was)) :=
  PE.imp (pe_tup h) fun σ H Q ⟨L, F, ρ, μ, Q0, E0, rl, q, uq, ux⟩ => by
    refine ⟨L, F, ρ, μ, _, E0, rl, q, fun ds μ1 q1 F1 H1 vs s1 w1 r1 => ?_, ux⟩
    refine ⟨by rw [r1.len]; exact q1.1, fun p hp => ?_⟩
    have hf := (w1.fresh hp).2
    exact uq _ _ q1.2 (upd F1 p (.tup vs)) _ _ (s1.trans (Sub.new hf)) (w1.frz hp) (.ofTup (.of upd_same) (r1.mono (Sub.new hf)))
theorem up_lst (h : PA X es (upA X.K C W was)) : PE X (.List es pos) (upE X.K C W (wLst was)) :=
  PE.imp (pe_lst h) fun σ H Q ⟨L, F, ρ, μ, Q0, E0, rl, q, uq, ux⟩ => by
    refine ⟨L, F, ρ, μ, _, E0, rl, q, fun ds μ1 q1 F1 H1 vs s1 w1 r1 => ?_, ux⟩
    refine ⟨by rw [r1.len]; exact q1.1, fun p hp => ?_⟩
    have hf := (w1.fresh hp).2
    exact uq _ _ q1.2 (upd F1 p (.lst vs)) _ _ (s1.trans (Sub.new hf)) (w1.frz hp) (.ofLst upd_same (r1.mono (Sub.new hf)))
theorem up_lstM (h : PA X es (upA X.K C W was)) : PE X (.List es pos) (upE X.K C W (wLstM was)) :=
  PE.imp (pe_lst h) fun σ H Q ⟨L, F, ρ, μ, Q0, E0, rl, q, uq, ux⟩ => by
    refine ⟨L, F, ρ, μ, _, E0, rl, q, fun ds μ1 q1 F1 H1 vs s1 w1 r1 => ?_, ux⟩
    refine ⟨by rw [r1.len]; exact q1.1, fun p hp => ?_⟩
    exact uq _ _ (q1.2 p (w1.fresh hp).1) F1 _ _ s1 (w1.new hp ⟨vs, upd_same, r1⟩) .ofRaw

/-! ### one-place operations -/
abbrev G1 := D → Mu → PQ → Prop
def wUn (g : G1) (wa : WE) : WE := fun ρ μ Q E => wa ρ μ (fun x μ1 => g x μ1 Q) E
def gNeg : G1 := fun x μ Q => ∃ i, x = .int i ∧ Q (.int (-i)) μ
theorem up_neg (h : PE X a (upE X.K C W wa)) : PE X (.UnaryOp .USub a pos) (upE X.K C W (wUn gNeg wa)) :=
  PE.imp (pe_un un_neg h) fun σ H Q ⟨L, F, ρ, μ, Q0, E0, rl, q, uq, ux⟩ => by
    refine ⟨L, F, ρ, μ, _, E0, rl, q, fun d1 μ1 q1 F1 H1 v1 s1 w1 r1 => ?_, ux⟩
    obtain ⟨i, rfl, q⟩ := q1
    exact ⟨i, r1.int, uq _ _ q F1 H1 _ s1 w1 .ofInt⟩

/-! ### subscripts -/
theorem RepL.atI {K : PySem.W.Frag} {F : Hp} {ds : List D} {xs : List V} {i : Int} {d : D} (r : RepL K C F ds xs) (h : L2.atI ds i = some d) : ∃ v, L2.atI xs i = some v ∧ Rep K C F d v := by
  unfold L2.atI at h ⊢
  rw [r.len]
  cases e : ixN ds.length i with
  | none => rw [e] at h; cases h
  | some j =>
    rw [e] at h
    exact r.at h
/-- d[k] with texts and ints as keys -/
def keyOf : D → Option Key
  | .int i => some (.inl i)
  | .str s => some (.inr s)
  | _ => none
def look (ks : List (Key × D)) (k : Key) : Option D := (ks.find? fun kv => decide (kv.1 = k)).map (·.2)
theorem RepK.look {K : PySem.W.Frag} {F : Hp} {k : Key} : ∀ {ks : List (Key × D)} {xs : List (Key × V)}, RepK K C F ks xs →
    (∀ d, look ks k = some d → ∃ v, valV xs k = some v ∧ Rep K C F d v) ∧ (look ks k = none → valV xs k = none)
  | [], _, h => by unfold RepK at h; subst h; exact ⟨fun d e => (nomatch e), fun _ => rfl⟩
  | (k', d') :: ks, _, h => by
    unfold RepK at h
    obtain ⟨x, r, e, h1, h2⟩ := h
    subst e
    have ih := RepK.look (k := k) h2
    unfold T2.look valV at ih ⊢
    by_cases hk : k' = k
    · subst hk
      simp only [List.find?_cons, decide_true, Option.map_some]
      exact ⟨fun d e => ⟨x, rfl, by cases e; exact h1⟩, fun e => (nomatch e)⟩
    · simp only [List.find?_cons, decide_eq_false hk]
      exact ih
theorem keyOf_kV {K : PySem.W.Frag} {F : Hp} {d : D} {v : V} {k : Key} (r : Rep K C F d v) (h : keyOf d = some k) : v = kV k := by
  cases d with
  | int i => cases h; exact r.int
  | str i => cases h; exact r.str
  | _ => cases h
def gIx : G2 := fun x y μ Q =>
  (∃ ds i d, getS μ x = some ds ∧ y = .int i ∧ atI ds i = some d ∧ Q d μ) ∨
  (∃ ks k d, getK μ x = some ks ∧ keyOf y = some k ∧ look ks k = some d ∧ Q d μ) ∨
  (∃ s i c, x = .str s ∧ y = .int i ∧ s.length ≤ sizeLine ∧ atI s.cps.toList i = some c ∧ Q (.str ⟨#[c]⟩) μ)
theorem ix_dict (hu : X.A.units + 1 < cLine) : IxR X (fun x y H Q => ∃ a v, x = .ref a ∧ DGet H a y (some v) ∧ Q v H) := by
  intro value slice pins s σ H x y v u Q I rx ry h hs
  obtain ⟨p, z, rfl, g, q⟩ := h
  obtain rfl : v = Value.ref p := rx
  exact PyProof.Rows.tail_any (dict_typeIs I g) PySem.F.slot_dict_getitem.lookup (d_getItem hu I g ry fun w' s3 I3 rw' => ⟨z, H, I3, rw', q⟩) hs
theorem up_ix (hu : X.A.units + 1 < cLine) (ha : PE X a (upE X.K C W wa)) (hb : PE X b (upE X.K C W wb)) (hs : PlainIx b) : PE X (.Subscript a b pos) (upE X.K C W (wOp gIx wa wb)) :=
  PE.imp (pe_ix (ix_seq.or (ix_dict hu)) ha hb hs) (up_two fun L F μ H x y v u Q0 Q wd rx ry q uq => by
    rcases q with ⟨ds, i, d, e, rfl, hd, q⟩ | ⟨ks, k, d, hk, hy, hd, q⟩ | ⟨s, i, c, rfl, rfl, hl, hc, q⟩
    · cases ry.int
      obtain ⟨p, xs, rfl, hp, rl⟩ := wd.getS rx e
      obtain ⟨w, hw, rw'⟩ := rl.atI hd
      rcases hp with hp | hp
      · exact .inl (.inl ⟨p, xs, i, w, rfl, rfl, hp, hw, uq _ _ q F H w (Sub.refl F) wd rw'⟩)
      · exact .inl (.inr (.inl ⟨p, xs, i, w, rfl, rfl, hp, hw, uq _ _ q F H w (Sub.refl F) wd rw'⟩))
    · obtain ⟨p, xs, rfl, hp, rk⟩ := wd.getK rx hk
      cases keyOf_kV ry hy
      obtain ⟨w, hw, rw'⟩ := rk.look.1 d hd
      exact .inr ⟨p, w, rfl, hw ▸ DGet.k hp, uq _ _ q F H w (Sub.refl F) wd rw'⟩
    · cases rx.str
      cases ry.int
      exact .inl (.inr (.inr ⟨s, i, c, rfl, rfl, hl, hc, uq _ _ q F H _ (Sub.refl F) wd .ofStr⟩)))

/-! ### the operators -/
theorem opd_of {f : Value → Value → Sem Value} {g g' : G2} (h : OpD X C f g) (i : ∀ x y μ Q, g' x y μ Q → g x y μ Q) : OpD X C f g' := by
  obtain ⟨r, h1, h2⟩ := h
  exact ⟨r, h1, fun L F μ H x y v u Q0 Q wd rx ry q uq => h2 L F μ H x y v u Q0 Q wd rx ry (i _ _ _ _ q) uq⟩
theorem opd_or {f : Value → Value → Sem Value} {g g' : G2} (h : OpD X C f g) (h' : OpD X C f g') : OpD X C f (fun x y μ Q => g x y μ Q ∨ g' x y μ Q) := by
  obtain ⟨r, h1, h2⟩ := h
  obtain ⟨r', h1', h2'⟩ := h'
  refine ⟨_, h1.or h1', fun L F μ H x y v u Q0 Q wd rx ry q uq => ?_⟩
  rcases q with q | q
  · exact .inl (h2 L F μ H x y v u Q0 Q wd rx ry q uq)
  · exact .inr (h2' L F μ H x y v u Q0 Q wd rx ry q uq)
theorem opd_int {f : Value → Value → Sem Value} {R : Int → Int → Prop} {h : Int → Int → Int} (o : OpR X f (rI R fun i j => .int (h i j))) : OpD X C f (fun x y μ Q => ∃ i j, x = .int i ∧ y = .int j ∧ R i j ∧ Q (.int (h i j)) μ) :=
  ⟨_, o, fun L F μ H x y v u Q0 Q wd rx ry q uq => by
    obtain ⟨i, j, rfl, rfl, c, q⟩ := q
    exact ⟨i, j, rx.int, ry.int, c, uq _ _ q F H _ (Sub.refl F) wd .ofInt⟩⟩
theorem opd_int0 {f : Value → Value → Sem Value} {h : Int → Int → Int} (o : OpR X f (rI0 fun i j => .int (h i j))) : OpD X C f (fun x y μ Q => ∃ i j, x = .int i ∧ y = .int j ∧ Q (.int (h i j)) μ) :=
  ⟨_, o, fun L F μ H x y v u Q0 Q wd rx ry q uq => by
    obtain ⟨i, j, rfl, rfl, q⟩ := q
    exact ⟨i, j, rx.int, ry.int, uq _ _ q F H _ (Sub.refl F) wd .ofInt⟩⟩
theorem opd_cmp0 {f : Value → Value → Sem Value} {h : Int → Int → Bool} (o : OpR X f (rI0 fun i j => .bl (h i j))) : OpD X C f (fun x y μ Q => ∃ i j, x = .int i ∧ y = .int j ∧ Q (.bl (h i j)) μ) :=
  ⟨_, o, fun L F μ H x y v u Q0 Q wd rx ry q uq => by
    obtain ⟨i, j, rfl, rfl, q⟩ := q
    exact ⟨i, j, rx.int, ry.int, uq _ _ q F H _ (Sub.refl F) wd .ofBl⟩⟩
def gAdd : G2 := fun x y μ Q =>
  (∃ i j, x = .int i ∧ y = .int j ∧ Q (.int (i + j)) μ) ∨
  (∃ i j, x = .str i ∧ y = .str j ∧ i.length + j.length ≤ sizeLine ∧ Q (.str (i ++ j)) μ) ∨
  (∃ i j, getM μ x = some i ∧ getM μ y = some j ∧ i.length + j.length ≤ sizeLine ∧ Q (.lst (i ++ j)) μ) ∨
  (∃ i j, x = .tup i ∧ y = .tup j ∧ i.length + j.length ≤ sizeLine ∧ Q (.tup (i ++ j)) μ)
theorem opd_add : OpD X C (binaryOp .Add) gAdd := by
  refine opd_or (opd_int0 op_add) (opd_or ⟨_, op_add_str, fun L F μ H x y v u Q0 Q wd rx ry q uq => ?_⟩ (opd_or ⟨_, op_cat, fun L F μ H x y v u Q0 Q wd rx ry q uq => ?_⟩ ⟨_, op_catA, fun L F μ H x y v u Q0 Q wd rx ry q uq => ?_⟩))
  · obtain ⟨i, j, rfl, rfl, c, q⟩ := q
    exact ⟨i, j, rx.str, ry.str, c, uq _ _ q F H _ (Sub.refl F) wd .ofStr⟩
  · obtain ⟨i, j, ei, ej, c, q⟩ := q
    obtain ⟨p, xs, rfl, hp, rp⟩ := wd.getM rx ei
    obtain ⟨p2, ys, rfl, hp2, rp2⟩ := wd.getM ry ej
    refine ⟨p, p2, xs, ys, rfl, rfl, hp, hp2, by rw [rp.len, rp2.len]; exact c, fun l hl => ?_⟩
    have hf := (wd.fresh hl).2
    exact uq _ _ q (upd F l (.lst (xs ++ ys))) _ _ (Sub.new hf) (wd.frz hl) (.ofLst upd_same ((rp.append rp2).mono (Sub.new hf)))
  · obtain ⟨i, j, rfl, rfl, c, q⟩ := q
    obtain ⟨p, xs, rfl, hp, rp⟩ := rx.tup
    obtain ⟨p2, ys, rfl, hp2, rp2⟩ := ry.tup
    refine ⟨p, p2, xs, ys, rfl, rfl, wd.sub.sqT hp, wd.sub.sqT hp2, by rw [rp.len, rp2.len]; exact c, fun e => ?_, fun _ e => ?_, fun _ _ l hl => ?_⟩
    · subst e
      have : i = [] := List.length_eq_zero_iff.mp rp.len.symm
      subst this
      exact uq _ _ q F H _ (Sub.refl F) wd (.ofTup hp2 rp2)
    · subst e
      have : j = [] := List.length_eq_zero_iff.mp rp2.len.symm
      subst this
      rw [List.append_nil] at q
      exact uq _ _ q F H _ (Sub.refl F) wd (.ofTup hp rp)
    · have hf := (wd.fresh hl).2
      exact uq _ _ q (upd F l (.tup (xs ++ ys))) _ _ (Sub.new hf) (wd.frz hl) (.ofTup (.of upd_same) ((rp.append rp2).mono (Sub.new hf)))
def gSub : G2 := fun x y μ Q => ∃ i j, x = .int i ∧ y = .int j ∧ Q (.int (i - j)) μ
theorem opd_sub : OpD X C (binaryOp .Sub) gSub := opd_int0 op_sub
def gMod : G2 := fun x y μ Q => ∃ i j, x = .int i ∧ y = .int j ∧ 0 < j ∧ Q (.int (i % j)) μ
theorem opd_mod : OpD X C (binaryOp .Mod) gMod := opd_int op_mod
def gDiv : G2 := fun x y μ Q => ∃ i j, x = .int i ∧ y = .int j ∧ CDivW i j ∧ Q (.int (i / j)) μ
theorem opd_div : OpD X C (binaryOp .FloorDiv) gDiv := opd_int op_fdivW
def gPow : G2 := fun x y μ Q => ∃ i j, x = .int i ∧ y = .int j ∧ CPow i j ∧ Q (.int (i ^ j.toNat)) μ
theorem opd_pow : OpD X C (binaryOp .Pow) gPow := opd_int op_pow
theorem RepL.rep {K : PySem.W.Frag} {F : Hp} {ds : List D} {xs : List V} (r : RepL K C F ds xs) : ∀ n : Nat, RepL K C F (List.replicate n ds).flatten (List.replicate n xs).flatten
  | 0 => .nil
  | n + 1 => by rw [List.replicate_succ, List.replicate_succ, List.flatten_cons, List.flatten_cons]; exact r.append (r.rep n)
end
end T2

set_option maxRecDepth 100000
set_option maxHeartbeats 4000000
namespace T2
open PySem PySem.Spec PyProof.Rows L2
section
variable {X : Cx} {C : CT} {W : WX} {a b c : Expr} {wa wb wc : WE} {pos : Pos}
/-! ### comparisons -/
def sv : D → Option V
  | .non => some .non
  | .bl b => some (.bl b)
  | .int i => some (.int i)
  | .str s => some (.str s)
  | _ => none
theorem Rep.sv {K : PySem.W.Frag} {F : Hp} {d : D} {v u : V} (r : Rep K C F d v) (h : T2.sv d = some u) : v = u := by
  cases d with
  | non => cases h; exact r.non
  | bl b => cases h; exact r.bl
  | int b => cases h; exact r.int
  | str b => cases h; exact r.str
  | _ => cases h
def gEq : G2 := fun x y μ Q => ∃ u v, sv x = some u ∧ sv y = some v ∧ scal u v = true ∧ Q (.bl (decide (u = v))) μ
def gNe : G2 := fun x y μ Q => ∃ u v, sv x = some u ∧ sv y = some v ∧ scal u v = true ∧ Q (.bl (!decide (u = v))) μ
theorem opd_eq : OpD X C (compareOp .Eq) gEq := ⟨_, op_eq, fun L F μ H x y v u Q0 Q wd rx ry q uq => by
  obtain ⟨a, b, ha, hb, hs, q⟩ := q
  cases rx.sv ha
  cases ry.sv hb
  exact ⟨hs, uq _ _ q F H _ (Sub.refl F) wd .ofBl⟩⟩
theorem opd_ne : OpD X C (compareOp .NotEq) gNe := ⟨_, op_ne, fun L F μ H x y v u Q0 Q wd rx ry q uq => by
  obtain ⟨a, b, ha, hb, hs, q⟩ := q
  cases rx.sv ha
  cases ry.sv hb
  exact ⟨hs, uq _ _ q F H _ (Sub.refl F) wd .ofBl⟩⟩
def gCmp (p : Int → Int → Bool) (q : Str → Str → Bool) : G2 := fun x y μ Q =>
  (∃ i j, x = .int i ∧ y = .int j ∧ Q (.bl (p i j)) μ) ∨ (∃ i j, x = .str i ∧ y = .str j ∧ Q (.bl (q i j)) μ)
theorem opd_cmpS {f : Value → Value → Sem Value} {h : Str → Str → Bool} (o : OpR X f (fun x y H Q => ∃ i j, x = .str i ∧ y = .str j ∧ Q (.bl (h i j)) H)) : OpD X C f (fun x y μ Q => ∃ i j, x = .str i ∧ y = .str j ∧ Q (.bl (h i j)) μ) :=
  ⟨_, o, fun L F μ H x y v u Q0 Q wd rx ry q uq => by
    obtain ⟨i, j, rfl, rfl, q⟩ := q
    exact ⟨i, j, rx.str, ry.str, uq _ _ q F H _ (Sub.refl F) wd .ofBl⟩⟩
def sLt (i j : Str) : Bool := decide (i.cps.toList < j.cps.toList)
def gLt : G2 := gCmp (fun i j => decide (i < j)) sLt
def gLe : G2 := gCmp (fun i j => decide (i ≤ j)) (fun i j => !sLt j i)
def gGt : G2 := gCmp (fun i j => decide (j < i)) (fun i j => sLt j i)
def gGe : G2 := gCmp (fun i j => decide (j ≤ i)) (fun i j => !sLt i j)
theorem opd_lt : OpD X C (compareOp .Lt) gLt := opd_or (opd_cmp0 op_lt) (opd_cmpS op_lt_str)
theorem opd_le : OpD X C (compareOp .LtE) gLe := opd_or (opd_cmp0 op_le) (opd_cmpS op_le_str)
theorem opd_gt : OpD X C (compareOp .Gt) gGt := opd_or (opd_cmp0 op_gt) (opd_cmpS op_gt_str)
theorem opd_ge : OpD X C (compareOp .GtE) gGe := opd_or (opd_cmp0 op_ge) (opd_cmpS op_ge_str)
def isNon : D → Bool
  | .non => true
  | _ => false
theorem Rep.isNon {K : PySem.W.Frag} {F : Hp} {d : D} {v : V} (r : Rep K C F d v) : decide (v = .non) = T2.isNon d := by
  cases d with
  | non => cases r.non; rfl
  | bl b => cases r.bl; rfl
  | int b => cases r.int; rfl
  | str b => cases r.str; rfl
  | raw b => cases r.raw; rfl
  | lst b => obtain ⟨_, _, e, _⟩ := r.lst; subst e; rfl
  | scr b => obtain ⟨_, _, e, _⟩ := r.scr; subst e; rfl
  | tup b => obtain ⟨_, _, e, _⟩ := r.tup; subst e; rfl
  | dct b => obtain ⟨_, _, e, _⟩ := r.dct; subst e; rfl
  | obj c b => unfold Rep at r; obtain ⟨_, _, _, _, e, _⟩ := r; subst e; rfl
  | exc a ca dx c b => unfold Rep at r; obtain ⟨e, _⟩ := r; subst e; rfl
def gIs : G2 := fun x y μ Q => y = .non ∧ Q (.bl (isNon x)) μ
def gIsNot : G2 := fun x y μ Q => y = .non ∧ Q (.bl (!isNon x)) μ
theorem opd_is : OpD X C (compareOp .Is) gIs := ⟨_, op_isN, fun L F μ H x y v u Q0 Q wd rx ry q uq => by
  obtain ⟨rfl, q⟩ := q
  refine ⟨ry.non, ?_⟩
  rw [rx.isNon]
  exact uq _ _ q F H _ (Sub.refl F) wd .ofBl⟩
theorem opd_isnot : OpD X C (compareOp .IsNot) gIsNot := ⟨_, op_notN, fun L F μ H x y v u Q0 Q wd rx ry q uq => by
  obtain ⟨rfl, q⟩ := q
  refine ⟨ry.non, ?_⟩
  rw [rx.isNon]
  exact uq _ _ q F H _ (Sub.refl F) wd .ofBl⟩
/-- flat values, == as items of a list -/
def eqS : D → D → Bool
  | .non, .non => true
  | .bl a, .bl b => a == b
  | .bl a, .int b => (if a then 1 else 0) == b
  | .int a, .bl b => a == (if b then 1 else 0)
  | .int a, .int b => a == b
  | .str a, .str b => a == b
  | _, _ => false
def flat : D → Bool
  | .non => true
  | .bl _ => true
  | .int _ => true
  | .str _ => true
  | _ => false
theorem Rep.flat {K : PySem.W.Frag} {F : Hp} {d : D} {v : V} (r : Rep K C F d v) (h : T2.flat d = true) : flatV v = true := by
  cases d with
  | non => cases r.non; rfl
  | bl b => cases r.bl; rfl
  | int b => cases r.int; rfl
  | str b => cases r.str; rfl
  | _ => cases h
theorem Rep.eqS {K : PySem.W.Frag} {F : Hp} {d e : D} {v u : V} (r : Rep K C F d v) (q : Rep K C F e u) (h : T2.flat d = true) (h' : T2.flat e = true) : eqV v u = T2.eqS d e := by
  cases d with
  | non => cases r.non; cases e with
    | non => cases q.non; rfl
    | bl b => cases q.bl; rfl
    | int b => cases q.int; rfl
    | str b => cases q.str; rfl
    | _ => cases h'
  | bl b => cases r.bl; cases e with
    | non => cases q.non; rfl
    | bl b => cases q.bl; rfl
    | int b => cases q.int; rfl
    | str b => cases q.str; rfl
    | _ => cases h'
  | int b => cases r.int; cases e with
    | non => cases q.non; rfl
    | bl b => cases q.bl; rfl
    | int b => cases q.int; rfl
    | str b => cases q.str; rfl
    | _ => cases h'
  | str b => cases r.str; cases e with
    | non => cases q.non; rfl
    | bl b => cases q.bl; rfl
    | int b => cases q.int; rfl
    | str b => cases q.str; rfl
    | _ => cases h'
  | _ => cases h
theorem RepL.flats {K : PySem.W.Frag} {F : Hp} : ∀ {ds : List D} {xs : List V}, RepL K C F ds xs → ds.all T2.flat = true → xs.all flatV = true
  | [], _, h, _ => by unfold RepL at h; subst h; rfl
  | d :: ds, _, h, e => by
    unfold RepL at h
    obtain ⟨x, r, e', h1, h2⟩ := h
    subst e'
    rw [List.all_cons, Bool.and_eq_true] at e ⊢
    exact ⟨h1.flat e.1, h2.flats e.2⟩
theorem RepL.inV {K : PySem.W.Frag} {F : Hp} {e : D} {u : V} (q : Rep K C F e u) (h' : T2.flat e = true) : ∀ {ds : List D} {xs : List V}, RepL K C F ds xs → ds.all T2.flat = true → L2.inV u xs = ds.any fun d => T2.eqS d e
  | [], _, h, _ => by unfold RepL at h; subst h; rfl
  | d :: ds, _, h, f => by
    unfold RepL at h
    obtain ⟨x, r, e', h1, h2⟩ := h
    subst e'
    rw [List.all_cons, Bool.and_eq_true] at f
    have ih := RepL.inV q h' h2 f.2
    unfold L2.inV at ih ⊢
    rw [List.any_cons, List.any_cons, ih, h1.eqS q f.1 h']
def gIn (n : Bool) : G2 := fun x y μ Q =>
  (∃ ds, getS μ y = some ds ∧ flat x = true ∧ ds.all flat = true ∧ Q (.bl (n ^^ ds.any fun d => eqS d x)) μ) ∨
  (∃ ks k, getK μ y = some ks ∧ keyOf x = some k ∧ Q (.bl (n ^^ (look ks k).isSome)) μ) ∨
  (∃ s c, x = .str ⟨#[c]⟩ ∧ y = .str s ∧ Q (.bl (n ^^ decide (c ∈ s.cps.toList))) μ)
theorem op_inDict (hu : X.A.units + 1 < cLine) : OpR X (compareOp .In) (fun y x H Q => ∃ a o, x = .ref a ∧ DGet H a y o ∧ Q (.bl o.isSome) H) := by
  intro pins s σ H y x v u Q I ry rx h
  obtain ⟨a, o, rfl, g, q⟩ := h
  obtain rfl : u = Value.ref a := rx
  exact d_in hu I g ry fun s3 I3 => ⟨.bl o.isSome, H, I3, rfl, q⟩
theorem RepK.dget {K : PySem.W.Frag} {F H : Hp} {ks : List (Key × D)} {xs : List (Key × V)} {k : Key} {p : Addr} (rk : RepK K C F ks xs) (hp : H p = some (.dK xs)) : ∃ o : Option V, DGet H p (kV k) o ∧ o.isSome = (T2.look ks k).isSome := by
  have h := rk.look (k := k)
  refine ⟨valV xs k, DGet.k hp, ?_⟩
  cases e : T2.look ks k with
  | none => rw [h.2 e]; rfl
  | some d => obtain ⟨v, hv, _⟩ := h.1 d e; rw [hv]; rfl
theorem opd_in (hu : X.A.units + 1 < cLine) : OpD X C (compareOp .In) (gIn false) := by
  refine opd_or ⟨_, op_in_seq, fun L F μ H x y v u Q0 Q wd rx ry q uq => ?_⟩ (opd_or ⟨_, op_inDict hu, fun L F μ H x y v u Q0 Q wd rx ry q uq => ?_⟩ ⟨_, op_in_sign, fun L F μ H x y v u Q0 Q wd rx ry q uq => ?_⟩)
  · obtain ⟨ds, e, fx, fd, q⟩ := q
    obtain ⟨p, xs, rfl, hp, rl⟩ := wd.getS ry e
    refine ⟨p, xs, rfl, hp, rx.flat fx, rl.flats fd, ?_⟩
    rw [if_neg Bool.false_ne_true, rl.inV rx fx fd]
    rw [Bool.false_xor] at q
    exact uq _ _ q F H _ (Sub.refl F) wd .ofBl
  · obtain ⟨ks, k, e, ek, q⟩ := q
    obtain ⟨p, xs, rfl, hp, rk⟩ := wd.getK ry e
    cases keyOf_kV rx ek
    obtain ⟨o, hg, ho⟩ := rk.dget (k := k) hp
    refine ⟨p, o, rfl, hg, ?_⟩
    rw [ho]
    rw [Bool.false_xor] at q
    exact uq _ _ q F H _ (Sub.refl F) wd .ofBl
  · obtain ⟨s, c, rfl, rfl, q⟩ := q
    rw [Bool.false_xor] at q
    exact ⟨c, s, rx.str, ry.str, uq _ _ q F H _ (Sub.refl F) wd .ofBl⟩
end
end T2

set_option maxRecDepth 100000
set_option maxHeartbeats 4000000
namespace T2
open PySem PySem.Spec PyProof.Rows L2
theorem op_notInDict {X : Cx} (hu : X.A.units + 1 < cLine) : OpR X (compareOp .NotIn) (fun y x H Q => ∃ a o, x = .ref a ∧ DGet H a y o ∧ Q (.bl (!o.isSome)) H) := by
  intro pins s σ H y x v u Q I ry rx h
  obtain ⟨a, o, rfl, g, q⟩ := h
  obtain rfl : u = Value.ref a := rx
  exact d_notIn hu I g ry fun s3 I3 => ⟨.bl (!o.isSome), H, I3, rfl, q⟩
theorem opd_notin {X : Cx} {C : CT} (hu : X.A.units + 1 < cLine) : OpD X C (compareOp .NotIn) (gIn true) := by
  refine opd_or ⟨_, op_notIn_seq, fun L F μ H x y v u Q0 Q wd rx ry q uq => ?_⟩ (opd_or ⟨_, op_notInDict hu, fun L F μ H x y v u Q0 Q wd rx ry q uq => ?_⟩ ⟨_, op_notIn_sign, fun L F μ H x y v u Q0 Q wd rx ry q uq => ?_⟩)
  · obtain ⟨ds, e, fx, fd, q⟩ := q
    obtain ⟨p, xs, rfl, hp, rl⟩ := wd.getS ry e
    refine ⟨p, xs, rfl, hp, rx.flat fx, rl.flats fd, ?_⟩
    rw [if_pos rfl, rl.inV rx fx fd]
    rw [Bool.true_xor] at q
    exact uq _ _ q F H _ (Sub.refl F) wd .ofBl
  · obtain ⟨ks, k, e, ek, q⟩ := q
    obtain ⟨p, xs, rfl, hp, rk⟩ := wd.getK ry e
    cases keyOf_kV rx ek
    obtain ⟨o, hg, ho⟩ := rk.dget (k := k) hp
    refine ⟨p, o, rfl, hg, ?_⟩
    rw [ho]
    rw [Bool.true_xor] at q
    exact uq _ _ q F H _ (Sub.refl F) wd .ofBl
  · obtain ⟨s, c, rfl, rfl, q⟩ := q
    rw [Bool.true_xor] at q
    exact ⟨c, s, rx.str, ry.str, uq _ _ q F H _ (Sub.refl F) wd .ofBl⟩

/-! ### calls of the text's own -/
abbrev SpD := List D → Mu → PQ → PX → Prop
def upXE (K : PySem.W.Frag) (C : CT) (L F : Hp) (E0 : PX) (E : XK) : Prop := ∀ c fs μ', E0 c fs μ' → ∀ F' H' cls dx, Sub F F' → Wd K C L F' μ' H' → XRep K C F' H' c fs cls dx → E cls dx H'
def liftSp (K : PySem.W.Frag) (C : CT) (sp : SpD) : Sp := fun vs H Q E => ∃ L F μ ds Q0 E0, RepL K C F ds vs ∧ Wd K C L F μ H ∧ sp ds μ Q0 E0 ∧ upQ K C L F Q0 Q ∧ upXE K C L F E0 E
/-- called with n values and the keywords ks, it keeps sp -/
def RunAt (P : Program) (w : World) (K : PySem.W.Frag) (mg : Str → Option Value) (base : Heap) (C : CT) (k : Nat) (f : Addr) (n : Nat) (ks : List Str) (sp : SpD) : Prop :=
  ∀ (A : Around) (outer : List PySem.Env) (s : Shared) (H : Hp) (us ws : List Value) (vs zs : List V) (Q : VK) (E : XK), Room k A → Env0 P w K mg base A outer s H → K.In s.heap → Vals vs us → Vals zs ws → vs.length = n → zs.length = ks.length →
    liftSp K C sp (vs ++ zs) H Q E → codeAny (model P w) A (.call (.ref f) ⟨us, ks.zip ws⟩) (CR (L2.CX P w) outer P w H s Q E) s
theorem RunAt.mono {P : Program} {w : World} {K : PySem.W.Frag} {mg : Str → Option Value} {base : Heap} {C : CT} {j k : Nat} {f : Addr} {n : Nat} {ks : List Str} {sp : SpD} (h : RunAt P w K mg base C j f n ks sp) (hk : j ≤ k) : RunAt P w K mg base C k f n ks sp :=
  fun A outer s H us ws vs zs Q E hr => h A outer s H us ws vs zs Q E (hr.mono hk)
structure FnAt (P : Program) (w : World) (K : PySem.W.Frag) (mg : Str → Option Value) (base : Heap) (C : CT) (k : Nat) (x : Str) (n : Nat) (ks : List Str) (sp : SpD) : Prop where
  ex : ∃ f, mg x = some (.ref f) ∧ PySem.W.keepIn K (.ref f) = true ∧ RunAt P w K mg base C k f n ks sp
theorem FnAt.mono {P : Program} {w : World} {K : PySem.W.Frag} {mg : Str → Option Value} {base : Heap} {C : CT} {j k : Nat} {x : Str} {n : Nat} {ks : List Str} {sp : SpD} (h : FnAt P w K mg base C j x n ks sp) (hk : j ≤ k) : FnAt P w K mg base C k x n ks sp := by
  obtain ⟨f, h1, h2, h3⟩ := h.ex
  exact ⟨f, h1, h2, h3.mono hk⟩
section
variable {X : Cx} {C : CT} {W : WX} {a b c e : Expr} {es : List Expr} {wa wb wc : WE} {was wks : WA} {p pos : Pos} {k n : Nat} {ks : List Str} {sp : SpD} {x : Str} {f : Addr}
theorem run_at {pins : List (Addr × Obj)} {σ : St} {H : Hp} {s : Shared} {Q : VK} {us ws : List Value} {vs zs : List V} (R : RunAt X.prog X.w X.K X.mg X.base C k f n ks sp) (hr : Room k X.A) (tk : Takes X W)
    (I : Inv X pins σ H s) (r : Vals vs us) (rz : Vals zs ws) (h1 : vs.length = n) (h2 : zs.length = ks.length) (h : liftSp X.K C sp (vs ++ zs) H Q (L2.WE W σ)) : wpAny (model X.prog X.w) X.A (call (.ref f) us (ks.zip ws)) (EP X pins σ Q) X.xe s := by
  refine wpAny_call (codeAny_mono (R X.A X.stack s H us ws vs zs Q (L2.WE W σ) hr I.env0 I.kIn r rz h1 h2 h) fun r s' hq => ?_)
  cases r with
  | error e => exact passAt tk σ pins H s e s' I hq
  | ok fl =>
    cases fl with
    | ret u => exact I.after hq
    | next => exact False.elim hq
    | brk => exact False.elim hq
    | cont => exact False.elim hq
def wCall (n : Nat) (sp : SpD) (was : WA) : WE := fun ρ μ Q E => was ρ μ (fun ds μ1 => ds.length = n ∧ sp ds μ1 Q E) E
def wCallK (n m : Nat) (sp : SpD) (was wks : WA) : WE := fun ρ μ Q E => was ρ μ (fun ds μ1 => wks ρ μ1 (fun es μ2 => ds.length = n ∧ es.length = m ∧ sp (ds ++ es) μ2 Q E) E) E
theorem upXE_of {K : PySem.W.Frag} {F : Hp} {σ : St} {E0 : PX} (h : upX K C L F σ E0 W) : upXE K C L F E0 (L2.WE W σ) := h
theorem up_call (F : FnAt X.prog X.w X.K X.mg X.base C k x n [] sp) (hr : Room k X.A) (tk : Takes X W) (hg : Gl X x) (ha : PA X (e :: es) (upA X.K C W was)) (hdb : (x == ("__debug__" : Str)) = false)
    (he : starEach (e :: es) X.env = (false, eval e X.env) :: starEach es X.env) (hpl : (backTo pos (starEach es X.env)).any (·.1) = false) :
    PE X (.Call (.Name x p) (e :: es) [] pos) (upE X.K C W (wCall n sp was)) := by
  obtain ⟨f, hm, hk, R⟩ := F.ex
  refine ⟨fun pins s σ H Q I h => ?_⟩
  obtain ⟨L, F0, ρ, μ, Q0, E0, rl, q, uq, ux⟩ := h
  refine wpAny_Call_Name_kw (ld_glob I hg hm ?_ hdb)
  refine PySem.W.callWith_K (h₀ := X.base) I.ok.mod.kin hk (thn (ha.run pos pins s σ H (fun vs H' => ∃ F' ds μ', Sub F0 F' ∧ Wd X.K C L F' μ' H' ∧ RepL X.K C F' ds vs ∧ ds.length = n ∧ sp ds μ' Q0 E0) I
    ⟨L, F0, ρ, μ, _, E0, rl, q, fun ds μ1 q1 F1 H1 vs s1 w1 r1 => ⟨F1, ds, μ1, s1, w1, r1, q1.1, q1.2⟩, ux⟩) fun us s1 ⟨vs, H1, I1, r, F1, ds, μ1, s1', w1, r1, hl, q1⟩ => ⟨I1.kIn, ?_⟩) he hpl
  have := run_at (us := us) (ws := []) (vs := vs) (zs := []) (Q := Q) R hr tk I1 r .nil (by rw [r1.len]; exact hl) rfl (by
    rw [List.append_nil]
    exact ⟨L, F1, μ1, ds, Q0, E0, r1, w1, q1, uq.mono s1', ux.mono s1'⟩)
  exact this
theorem up_call0 (F : FnAt X.prog X.w X.K X.mg X.base C k x 0 [] sp) (hr : Room k X.A) (tk : Takes X W) (hg : Gl X x) (hdb : (x == ("__debug__" : Str)) = false) :
    PE X (.Call (.Name x p) [] [] pos) (upE X.K C W (wCall 0 sp wNil)) := by
  obtain ⟨f, hm, hk, R⟩ := F.ex
  refine ⟨fun pins s σ H Q I h => ?_⟩
  obtain ⟨L, F0, ρ, μ, Q0, E0, rl, q, uq, ux⟩ := h
  refine wpAny_Call_Name_kw (ld_glob I hg hm ?_ hdb)
  have := run_at (us := []) (ws := []) (vs := []) (zs := []) (Q := Q) R hr tk I .nil .nil rfl rfl ⟨L, F0, μ, [], Q0, E0, .nil, rl.wd, q.2, uq, ux⟩
  exact PySem.W.callWith_K0 I.kIn hk this
/-! keywords -/
def upK (X : Cx) (C : CT) (W : WX) (kws : List Keyword) (wks : WA) : Prop := PK X kws (upA X.K C W wks)
theorem up_knil : PK X [] (upA X.K C W wNil) :=
  ⟨fun pos pins s σ H Q I h => pk_nil.run pos pins s σ H Q I (by obtain ⟨L, F, ρ, μ, Q0, E0, rl, q, uq, ux⟩ := h; exact uq [] μ q F H [] (Sub.refl F) rl.wd .nil)⟩
theorem up_kcons {nm : Option Str} {kws : List Keyword} {kpos : Pos} (ha : PE X e (upE X.K C W wa)) (hr : PK X kws (upA X.K C W wks)) : PK X (⟨nm, e, kpos⟩ :: kws) (upA X.K C W (wCons wa wks)) :=
  ⟨fun pos pins s σ H Q I h => (pk_cons ha hr).run pos pins s σ H Q I (by
    obtain ⟨L, F, ρ, μ, Q0, E0, rl, q, uq, ux⟩ := h
    refine ⟨L, F, ρ, μ, _, E0, rl, q, fun d1 μ1 q1 F1 H1 v1 s1 w1 r1 => ?_, ux⟩
    refine ⟨L, F1, ρ, μ1, _, E0, rl.to s1 w1, q1, fun ds μ2 q2 F2 H2 vs s2 w2 r2 => ?_, ux.mono s1⟩
    exact uq (d1 :: ds) μ2 q2 F2 H2 (v1 :: vs) (s1.trans s2) w2 (.cons (r1.mono s2) r2))⟩
theorem up_callK {kws : List Keyword} (F : FnAt X.prog X.w X.K X.mg X.base C k x n ks sp) (hr : Room k X.A) (tk : Takes X W) (hg : Gl X x) (ha : PA X (e :: es) (upA X.K C W was)) (hkw : PK X kws (upA X.K C W wks)) (hdb : (x == ("__debug__" : Str)) = false)
    (hall : (backToKw pos (keywordEach kws X.env)).all (·.1.isSome) = true) (hks : (backToKw pos (keywordEach kws X.env)).filterMap (·.1) = ks)
    (he : starEach (e :: es) X.env = (false, eval e X.env) :: starEach es X.env) (hpl : ((backTo pos (starEach (e :: es) X.env)).any (·.1) || (backToKw pos (keywordEach kws X.env)).any (·.1.isNone)) = false) :
    PE X (.Call (.Name x p) (e :: es) kws pos) (upE X.K C W (wCallK n ks.length sp was wks)) := by
  obtain ⟨f, hm, hk, R⟩ := F.ex
  refine ⟨fun pins s σ H Q I h => ?_⟩
  obtain ⟨L, F0, ρ, μ, Q0, E0, rl, q, uq, ux⟩ := h
  refine wpAny_Call_Name_kw (ld_glob I hg hm ?_ hdb)
  refine PySem.W.callWith_KW (h₀ := X.base) I.ok.mod.kin hk hall (thn (ha.run pos pins s σ H (fun vs H' => ∃ F' ds μ', Sub F0 F' ∧ Wd X.K C L F' μ' H' ∧ RepL X.K C F' ds vs ∧ wks ρ μ' (fun es μ2 => ds.length = n ∧ es.length = ks.length ∧ sp (ds ++ es) μ2 Q0 E0) E0) I
    ⟨L, F0, ρ, μ, _, E0, rl, q, fun ds μ1 q1 F1 H1 vs s1 w1 r1 => ⟨F1, ds, μ1, s1, w1, r1, q1⟩, ux⟩) fun us s1 ⟨vs, H1, I1, r, F1, ds, μ1, s1', w1, r1, q1⟩ => ?_) hpl he
  refine thn (hkw.run pos pins s1 σ H1 (fun zs H' => ∃ F' es μ', Sub F1 F' ∧ Wd X.K C L F' μ' H' ∧ RepL X.K C F' es zs ∧ ds.length = n ∧ es.length = ks.length ∧ sp (ds ++ es) μ' Q0 E0) I1
    ⟨L, F1, ρ, μ1, _, E0, rl.to s1' w1, q1, fun es μ2 q2 F2 H2 zs s2 w2 r2 => ⟨F2, es, μ2, s2, w2, r2, q2⟩, ux.mono s1'⟩) fun ws s2 ⟨zs, H2, I2, rz, F2, es2, μ2, s2', w2, r2, hl1, hl2, q2⟩ => ⟨I2.kIn, ?_⟩
  rw [hks]
  have := run_at (us := us) (ws := ws) (vs := vs) (zs := zs) (Q := Q) R hr tk I2 r rz (by rw [r1.len]; exact hl1) (by rw [r2.len]; exact hl2) ⟨L, F2, μ2, ds ++ es2, Q0, E0, (r1.mono s2').append r2, w2, q2, uq.mono (s1'.trans s2'), ux.mono (s1'.trans s2')⟩
  exact this
theorem up_callK0 {kws : List Keyword} (F : FnAt X.prog X.w X.K X.mg X.base C k x 0 ks sp) (hr : Room k X.A) (tk : Takes X W) (hg : Gl X x) (hkw : PK X kws (upA X.K C W wks)) (hdb : (x == ("__debug__" : Str)) = false)
    (hall : (backToKw pos (keywordEach kws X.env)).all (·.1.isSome) = true) (hks : (backToKw pos (keywordEach kws X.env)).filterMap (·.1) = ks)
    (hpl : ((backTo pos (starEach [] X.env)).any (·.1) || (backToKw pos (keywordEach kws X.env)).any (·.1.isNone)) = false) :
    PE X (.Call (.Name x p) [] kws pos) (upE X.K C W (wCallK 0 ks.length sp wNil wks)) := by
  obtain ⟨f, hm, hk, R⟩ := F.ex
  refine ⟨fun pins s σ H Q I h => ?_⟩
  obtain ⟨L, F0, ρ, μ, Q0, E0, rl, q, uq, ux⟩ := h
  refine wpAny_Call_Name_kw (ld_glob I hg hm ?_ hdb)
  refine PySem.W.callWith_KW0 (h₀ := X.base) I.ok.mod.kin hk hall ?_ hpl
  refine thn (hkw.run pos pins s σ H (fun zs H' => ∃ F' es μ', Sub F0 F' ∧ Wd X.K C L F' μ' H' ∧ RepL X.K C F' es zs ∧ es.length = ks.length ∧ sp es μ' Q0 E0) I
    ⟨L, F0, ρ, μ, _, E0, rl, q, fun es μ2 q2 F2 H2 zs s2 w2 r2 => ⟨F2, es, μ2, s2, w2, r2, q2.2.1, q2.2.2⟩, ux⟩) fun ws s2 ⟨zs, H2, I2, rz, F2, es2, μ2, s2', w2, r2, hl2, q2⟩ => ⟨I2.kIn, ?_⟩
  rw [hks]
  have := run_at (us := []) (ws := ws) (vs := []) (zs := zs) (Q := Q) R hr tk I2 .nil rz rfl (by rw [r2.len]; exact hl2) ⟨L, F2, μ2, es2, Q0, E0, r2, w2, q2, uq.mono s2', ux.mono s2'⟩
  exact this

/-! ### built-in functions and types, called with values -/
abbrev GC := List D → Mu → PQ → Prop
def CallD (X : Cx) (C : CT) (f : Value) (g : GC) : Prop :=
  ∃ r, CallR X f r ∧ ∀ L F μ H xs vs Q0 Q, Wd X.K C L F μ H → RepL X.K C F xs vs → g xs μ Q0 → upQ X.K C L F Q0 Q → r vs H Q
def wCB (g : GC) (was : WA) : WE := fun ρ μ Q E => was ρ μ (fun ds μ1 => g ds μ1 Q) E
theorem up_cb0 {g : GC} {r : List V → Hp → VK → Prop} (hr : ∀ L F μ H xs vs Q0 Q, Wd X.K C L F μ H → RepL X.K C F xs vs → g xs μ Q0 → upQ X.K C L F Q0 Q → r vs H Q) :
    ∀ σ H Q, upE X.K C W (wCB g was) σ H Q → tCB r (upA X.K C W was) σ H Q := fun σ H Q ⟨L, F, ρ, μ, Q0, E0, rl, q, uq, ux⟩ => by
  refine ⟨L, F, ρ, μ, _, E0, rl, q, fun ds μ1 q1 F1 H1 vs s1 w1 r1 => ?_, ux⟩
  exact hr L F1 μ1 H1 ds vs Q0 Q w1 r1 q1 (uq.mono s1)
theorem up_callB {id : String} {g : GC} (hc : CallD X C (.builtin id) g) (hg : Gl X x) (hm : X.mg x = none) (hv : bootBuiltins x = some (.builtin id)) (ha : PA X (e :: es) (upA X.K C W was)) (hn : x ≠ "__name__") (hdb : (x == ("__debug__" : Str)) = false)
    (he : starEach (e :: es) X.env = (false, eval e X.env) :: starEach es X.env) (hpl : (backTo pos (starEach es X.env)).any (·.1) = false) : PE X (.Call (.Name x p) (e :: es) [] pos) (upE X.K C W (wCB g was)) := by
  obtain ⟨r, h1, h2⟩ := hc
  exact PE.imp (pe_callB h1 hg hm hv ha hn hdb he hpl) (up_cb0 h2)
theorem up_callTy {id : String} {g : GC} (hc : CallD X C (.type id) g) (hg : Gl X x) (hm : X.mg x = none) (hv : bootBuiltins x = some (.type id)) (ha : PA X (e :: es) (upA X.K C W was)) (hn : x ≠ "__name__") (hdb : (x == ("__debug__" : Str)) = false)
    (he : starEach (e :: es) X.env = (false, eval e X.env) :: starEach es X.env) (hpl : (backTo pos (starEach es X.env)).any (·.1) = false) : PE X (.Call (.Name x p) (e :: es) [] pos) (upE X.K C W (wCB g was)) := by
  obtain ⟨r, h1, h2⟩ := hc
  exact PE.imp (pe_callTy h1 hg hm hv ha hn hdb he hpl) (up_cb0 h2)
theorem RepL.one {K : PySem.W.Frag} {F : Hp} {d : D} {vs : List V} (h : RepL K C F [d] vs) : ∃ v, vs = [v] ∧ Rep K C F d v := by
  unfold RepL at h
  obtain ⟨x, r, e, h1, h2⟩ := h
  unfold RepL at h2
  subst h2
  exact ⟨x, e, h1⟩
theorem RepL.two {K : PySem.W.Frag} {F : Hp} {d d2 : D} {vs : List V} (h : RepL K C F [d, d2] vs) : ∃ v v2, vs = [v, v2] ∧ Rep K C F d v ∧ Rep K C F d2 v2 := by
  unfold RepL at h
  obtain ⟨x, r, e, h1, h2⟩ := h
  obtain ⟨v, e2, h3⟩ := h2.one
  subst e2
  exact ⟨x, v, e, h1, h3⟩
def gLen : GC := fun xs μ Q => ∃ x, xs = [x] ∧ ((∃ ds, getS μ x = some ds ∧ Q (.int ds.length) μ) ∨ (∃ s, x = .str s ∧ s.length ≤ sizeLine ∧ Q (.int s.length) μ) ∨ (∃ ks, getK μ x = some ks ∧ Q (.int ks.length) μ))
theorem CallR.or {f : Value} {r r' : List V → Hp → VK → Prop} (h : CallR X f r) (h' : CallR X f r') : CallR X f (fun xs H Q => r xs H Q ∨ r' xs H Q) := by
  intro pins s σ H xs us Q I rx q
  rcases q with q | q
  · exact h pins s σ H xs us Q I rx q
  · exact h' pins s σ H xs us Q I rx q
theorem cad_len : CallD X C (.builtin "len") gLen := ⟨_, CallR.or call_len call_lenD, fun L F μ H xs vs Q0 Q wd rx q uq => by
  obtain ⟨x, rfl, q⟩ := q
  obtain ⟨v, rfl, r⟩ := rx.one
  rcases q with ⟨ds, e, q⟩ | ⟨s, rfl, hl, q⟩ | ⟨ks, e, q⟩
  · obtain ⟨p, ys, rfl, hp, rl⟩ := wd.getS r e
    refine .inl ⟨_, ds.length, rfl, ?_, uq _ _ q F H _ (Sub.refl F) wd .ofInt⟩
    rcases hp with hp | hp
    · exact .inl ⟨ys, hp, rl.len.symm⟩
    · exact .inr ⟨ys, hp, rl.len.symm⟩
  · cases r.str
    exact .inl ⟨_, s.length, rfl, ⟨hl, rfl⟩, uq _ _ q F H _ (Sub.refl F) wd .ofInt⟩
  · obtain ⟨p, ys, rfl, hp, rk⟩ := wd.getK r e
    refine .inr ⟨p, ys, rfl, hp, ?_⟩
    rw [rk.len]
    exact uq _ _ q F H _ (Sub.refl F) wd .ofInt⟩
def gAbs : GC := fun xs μ Q => ∃ i, xs = [.int i] ∧ Q (.int (if i < 0 then -i else i)) μ
theorem cad_abs : CallD X C (.builtin "abs") gAbs := ⟨_, call_abs, fun L F μ H xs vs Q0 Q wd rx q uq => by
  obtain ⟨x, rfl, q⟩ := q
  obtain ⟨v, rfl, r⟩ := rx.one
  exact ⟨x, by rw [r.int], uq _ _ q F H _ (Sub.refl F) wd .ofInt⟩⟩
def gMax : GC := fun xs μ Q => ∃ i j, xs = [.int i, .int j] ∧ Q (.int (if j > i then j else i)) μ
theorem cad_max (hc : X.calm = true) : CallD X C (.builtin "max") gMax := ⟨_, call_max2 hc, fun L F μ H xs vs Q0 Q wd rx q uq => by
  obtain ⟨i, j, rfl, q⟩ := q
  obtain ⟨v, u, rfl, r, r2⟩ := rx.two
  exact ⟨i, j, by rw [r.int, r2.int], uq _ _ q F H _ (Sub.refl F) wd .ofInt⟩⟩
def gMin : GC := fun xs μ Q => ∃ i j, xs = [.int i, .int j] ∧ Q (.int (if j < i then j else i)) μ
theorem cad_min (hc : X.calm = true) : CallD X C (.builtin "min") gMin := ⟨_, call_min2 hc, fun L F μ H xs vs Q0 Q wd rx q uq => by
  obtain ⟨i, j, rfl, q⟩ := q
  obtain ⟨v, u, rfl, r, r2⟩ := rx.two
  exact ⟨i, j, by rw [r.int, r2.int], uq _ _ q F H _ (Sub.refl F) wd .ofInt⟩⟩
def gInt : GC := fun xs μ Q => (∃ i, xs = [.int i] ∧ Q (.int i) μ) ∨ (∃ b, xs = [.bl b] ∧ Q (.int (if b then 1 else 0)) μ) ∨ (∃ s n, xs = [.str s] ∧ PySem.intText? s = some n ∧ s.length ≤ 640 ∧ Q (.int n) μ)
theorem cad_int : CallD X C (.type "int") gInt := ⟨_, CallR.or call_int1 call_int_str, fun L F μ H xs vs Q0 Q wd rx q uq => by
  rcases q with ⟨i, rfl, q⟩ | ⟨i, rfl, q⟩ | ⟨i, n, rfl, h1, h2, q⟩
  · obtain ⟨v, rfl, r⟩ := rx.one
    exact .inl (.inl ⟨i, by rw [r.int], uq _ _ q F H _ (Sub.refl F) wd .ofInt⟩)
  · obtain ⟨v, rfl, r⟩ := rx.one
    exact .inl (.inr ⟨i, by rw [r.bl], uq _ _ q F H _ (Sub.refl F) wd .ofInt⟩)
  · obtain ⟨v, rfl, r⟩ := rx.one
    exact .inr ⟨i, n, by rw [r.str], h1, h2, uq _ _ q F H _ (Sub.refl F) wd .ofInt⟩⟩
/-- list(x): never changed | that may change -/
def gList : GC := fun xs μ Q => ∃ x ds, xs = [x] ∧ getS μ x = some ds ∧ Q (.lst ds) μ
def gListM : GC := fun xs μ Q => ∃ x ds, xs = [x] ∧ getS μ x = some ds ∧ ∀ a, μ a = none → Q (.raw a) (mset μ a (.lst ds))
theorem cad_list : CallD X C (.type "list") gList := ⟨_, call_list_of, fun L F μ H xs vs Q0 Q wd rx q uq => by
  obtain ⟨x, ds, rfl, e, q⟩ := q
  obtain ⟨v, rfl, r⟩ := rx.one
  obtain ⟨p, ys, rfl, hp, rl⟩ := wd.getS r e
  refine ⟨p, ys, rfl, hp, fun l hl => ?_⟩
  have hf := (wd.fresh hl).2
  exact uq _ _ q (upd F l (.lst ys)) _ _ (Sub.new hf) (wd.frz hl) (.ofLst upd_same (rl.mono (Sub.new hf)))⟩
theorem cad_listM : CallD X C (.type "list") gListM := ⟨_, call_list_of, fun L F μ H xs vs Q0 Q wd rx q uq => by
  obtain ⟨x, ds, rfl, e, q⟩ := q
  obtain ⟨v, rfl, r⟩ := rx.one
  obtain ⟨p, ys, rfl, hp, rl⟩ := wd.getS r e
  refine ⟨p, ys, rfl, hp, fun l hl => ?_⟩
  exact uq _ _ (q l (wd.fresh hl).1) F _ _ (Sub.refl F) (wd.new hl ⟨ys, upd_same, rl⟩) .ofRaw⟩
def gTuple : GC := fun xs μ Q => ∃ x ds, xs = [x] ∧ getS μ x = some ds ∧ Q (.tup ds) μ
theorem cad_tuple : CallD X C (.type "tuple") gTuple := ⟨_, call_tuple_of, fun L F μ H xs vs Q0 Q wd rx q uq => by
  obtain ⟨x, ds, rfl, e, q⟩ := q
  obtain ⟨v, rfl, r⟩ := rx.one
  cases x with
  | tup es =>
    cases e
    obtain ⟨p, ys, rfl, hp, rl⟩ := r.tup
    exact ⟨p, ys, rfl, .inr ⟨wd.sub.sqT hp, uq _ _ q F H _ (Sub.refl F) wd (.ofTup hp rl)⟩⟩
  | _ =>
    obtain ⟨p, ys, rfl, hp, rl⟩ := wd.getL r (by first | exact e | (cases e))
    refine ⟨p, ys, rfl, .inl ⟨hp, fun l hl => ?_⟩⟩
    have hf := (wd.fresh hl).2
    exact uq _ _ q (upd F l (.tup ys)) _ _ (Sub.new hf) (wd.frz hl) (.ofTup (.of upd_same) (rl.mono (Sub.new hf)))⟩
/-- the bools of a list -/
def bools : List D → Option (List Bool)
  | [] => some []
  | .bl b :: ds => (bools ds).map (b :: ·)
  | _ :: _ => none
theorem RepL.bools {K : PySem.W.Frag} {F : Hp} : ∀ {ds : List D} {xs : List V} {bs : List Bool}, RepL K C F ds xs → T2.bools ds = some bs → xs = bs.map V.bl
  | [], _, bs, h, e => by cases e; unfold RepL at h; exact h
  | d :: ds, _, bs, h, e => by
    unfold RepL at h
    obtain ⟨x, r, e', h1, h2⟩ := h
    cases d with
    | bl b =>
      simp only [T2.bools] at e
      cases q : T2.bools ds with
      | none => rw [q] at e; cases e
      | some cs =>
        rw [q] at e
        cases e
        rw [e', h1.bl, h2.bools q]
        rfl
    | _ => cases e
def gAll : GC := fun xs μ Q => ∃ x ds bs, xs = [x] ∧ getL μ x = some ds ∧ bools ds = some bs ∧ Q (.bl (bs.all id)) μ
def gAny : GC := fun xs μ Q => ∃ x ds bs, xs = [x] ∧ getL μ x = some ds ∧ bools ds = some bs ∧ Q (.bl (bs.any id)) μ
theorem cad_all (hc : X.calm = true) : CallD X C (.builtin "all") gAll := ⟨_, cr_all hc, fun L F μ H xs vs Q0 Q wd rx q uq => by
  obtain ⟨x, ds, bs, rfl, e, eb, q⟩ := q
  obtain ⟨v, rfl, r⟩ := rx.one
  obtain ⟨p, ys, rfl, hp, rl⟩ := wd.getL r e
  exact ⟨p, bs, rfl, rl.bools eb ▸ hp, uq _ _ q F H _ (Sub.refl F) wd .ofBl⟩⟩
theorem cad_any (hc : X.calm = true) : CallD X C (.builtin "any") gAny := ⟨_, cr_any hc, fun L F μ H xs vs Q0 Q wd rx q uq => by
  obtain ⟨x, ds, bs, rfl, e, eb, q⟩ := q
  obtain ⟨v, rfl, r⟩ := rx.one
  obtain ⟨p, ys, rfl, hp, rl⟩ := wd.getL r e
  exact ⟨p, bs, rfl, rl.bools eb ▸ hp, uq _ _ q F H _ (Sub.refl F) wd .ofBl⟩⟩
end
end T2

set_option maxRecDepth 100000
set_option maxHeartbeats 4000000
namespace T2
open PySem PySem.Spec PyProof.Rows L2
section
variable {X : Cx} {C : CT} {W : WX} {a b c e o : Expr} {es : List Expr} {wa wb wc wo : WE} {was wks : WA} {p pos apos cpos p2 : Pos} {x : Str}
/-! ### isinstance with the built-in types -/
inductive Ty | int | bool | str | list | tuple | dict
def Ty.s : Ty → String
  | .int => "int" | .bool => "bool" | .str => "str" | .list => "list" | .tuple => "tuple" | .dict => "dict"
def tyn (μ : Mu) : D → Option String
  | .non => some "NoneType"
  | .bl _ => some "bool"
  | .int _ => some "int"
  | .str _ => some "str"
  | .lst _ => some "list"
  | .tup _ => some "tuple"
  | .dct _ => some "dict"
  | .raw a => match μ a with
    | some (.lst _) => some "list"
    | some (.dct _) => some "dict"
    | _ => none
  | _ => none
def isTy : String → Ty → Bool
  | "bool", .int => true
  | s, t => s == t.s
theorem isTy_ok : ∀ s ∈ ["NoneType", "bool", "int", "str", "list", "tuple", "dict"], ∀ t : Ty, kitB s t.s = some (isTy s t) := by
  intro s hs t
  simp only [List.mem_cons, List.not_mem_nil, or_false] at hs
  rcases hs with rfl | rfl | rfl | rfl | rfl | rfl | rfl <;> cases t <;> decide +kernel
theorem tyn_mem {μ : Mu} {d : D} {s : String} (h : tyn μ d = some s) : s ∈ ["NoneType", "bool", "int", "str", "list", "tuple", "dict"] := by
  cases d with
  | raw a =>
    simp only [tyn] at h
    split at h <;> first | (cases h; decide) | cases h
  | scr a => cases h
  | obj a b => cases h
  | exc a ca dx c fs => cases h
  | _ => cases h; decide
theorem Wd.tyx {K : PySem.W.Frag} {F H : Hp} {μ : Mu} {d : D} {v : V} {s : String} (wd : Wd K C L F μ H) (r : Rep K C F d v) (h : tyn μ d = some s) : TyX K H v (.type s) := by
  cases d with
  | non => cases h; cases r.non; exact .base .non
  | bl b => cases h; cases r.bl; exact .base (.bl _)
  | int b => cases h; cases r.int; exact .base (.int _)
  | str b => cases h; cases r.str; exact .base (.str _)
  | lst b => cases h; obtain ⟨a, xs, rfl, q, _⟩ := r.lst; exact .base (.lst (wd.sub _ _ q))
  | tup b =>
    cases h
    obtain ⟨a, xs, rfl, q, _⟩ := r.tup
    rcases q with (q | ⟨o, q⟩) | ⟨o, its, n, q, cl, _⟩
    · exact .base (.tup (wd.sub _ _ q))
    · exact .fTuple (wd.sub _ _ q)
    · exact .kTuple q cl
  | dct b => cases h; obtain ⟨a, xs, rfl, q, _⟩ := r.dct; exact .base (.dK (wd.sub _ _ q))
  | raw a =>
    cases r.raw
    simp only [tyn] at h
    split at h
    · rename_i e; cases h; obtain ⟨xs, q, _⟩ := wd.raw e; exact .base (.lst q)
    · rename_i e; cases h; obtain ⟨xs, q, _⟩ := wd.rawK e; exact .base (.dK q)
    · cases h
  | scr a => cases h
  | obj a b => cases h
  | exc a ca dx c fs => cases h
def wIsi (t : Ty) (wa : WE) : WE := fun ρ μ Q E => wa ρ μ (fun d μ1 => ∃ s, tyn μ1 d = some s ∧ Q (.bl (isTy s t)) μ1) E
theorem up_isi {t : Ty} {tv : Str} {p3 : Pos} (hg : Gl X "isinstance") (hm : X.mg "isinstance" = none) (ha : PE X a (upE X.K C W wa)) (ht : PE X (.Name tv p3) (tC (.ty t.s)))
    (he : starEach [a, .Name tv p3] X.env = (false, eval a X.env) :: starEach [.Name tv p3] X.env) :
    PE X (.Call (.Name "isinstance" p) [a, .Name tv p3] [] pos) (upE X.K C W (wIsi t wa)) := by
  have h := pe_callB (pos := pos) (p := p) call_isi hg hm (by decide +kernel) (pa_cons ha (pa_cons ht pa_nil) he) (by decide) (by decide) he rfl
  refine PE.imp h fun σ H Q ⟨L, F, ρ, μ, Q0, E0, rl, q, uq, ux⟩ => ?_
  refine ⟨L, F, ρ, μ, _, E0, rl, q, fun d1 μ1 q1 F1 H1 v1 s1 w1 r1 => ?_, ux⟩
  obtain ⟨s, hs, q⟩ := q1
  exact ⟨v1, .ty t.s, .type s, .type t.s, isTy s t, rfl, .ty _, w1.tyx r1 hs, kit_ty (isTy_ok s (tyn_mem hs) t), uq _ _ q F1 H1 _ s1 w1 .ofBl⟩

/-! ### slices -/
def cutD (xs : List D) (lo hi : Option Int) : List D := (xs.drop (HT.sIx xs.length 0 lo)).take (HT.sIx xs.length xs.length hi - HT.sIx xs.length 0 lo)
abbrev WO := Env → Mu → (Option Int → Mu → Prop) → PX → Prop
def wNoP : WO := fun _ μ Q _ => Q none μ
def wPart (wa : WE) : WO := fun ρ μ Q E => wa ρ μ (fun d μ1 => ∃ i, d = .int i ∧ Q (some i) μ1) E
def upO (K : PySem.W.Frag) (C : CT) (W : WX) (w : WO) : TO := fun σ H Q => ∃ L F ρ μ Q0 E0, Rl K C L F ρ μ σ H ∧ w ρ μ Q0 E0 ∧ (∀ b μ', Q0 b μ' → ∀ F' H', Sub F F' → Wd K C L F' μ' H' → Q b H') ∧ upX K C L F σ E0 W
theorem PO.imp {e : Option Expr} {t t' : TO} (h : PO X e t) (i : ∀ σ H Q, t' σ H Q → t σ H Q) : PO X e t' := ⟨fun pins s σ H Q I q => h.run pins s σ H Q I (i σ H Q q)⟩
theorem up_noP : PO X none (upO X.K C W wNoP) := PO.imp po_none fun σ H Q ⟨L, F, ρ, μ, Q0, E0, rl, q, uq, ux⟩ => uq none μ q F H (Sub.refl F) rl.wd
theorem up_part (ha : PE X a (upE X.K C W wa)) : PO X (some a) (upO X.K C W (wPart wa)) := PO.imp (po_some ha) fun σ H Q ⟨L, F, ρ, μ, Q0, E0, rl, q, uq, ux⟩ => by
  refine ⟨L, F, ρ, μ, _, E0, rl, q, fun d1 μ1 q1 F1 H1 v1 s1 w1 r1 => ?_, ux⟩
  obtain ⟨i, rfl, q⟩ := q1
  exact ⟨i, r1.int, uq _ _ q F1 H1 s1 w1⟩
theorem RepL.drop {K : PySem.W.Frag} {F : Hp} : ∀ {ds : List D} {xs : List V} (n : Nat), RepL K C F ds xs → RepL K C F (ds.drop n) (xs.drop n)
  | _, _, 0, h => h
  | [], _, n + 1, h => by unfold RepL at h; subst h; exact .nil
  | d :: ds, _, n + 1, h => by
    unfold RepL at h
    obtain ⟨x, r, e, h1, h2⟩ := h
    subst e
    exact RepL.drop n h2
theorem RepL.take {K : PySem.W.Frag} {F : Hp} : ∀ {ds : List D} {xs : List V} (n : Nat), RepL K C F ds xs → RepL K C F (ds.take n) (xs.take n)
  | _, _, 0, h => .nil
  | [], _, n + 1, h => by unfold RepL at h; subst h; exact .nil
  | d :: ds, _, n + 1, h => by
    unfold RepL at h
    obtain ⟨x, r, e, h1, h2⟩ := h
    subst e
    exact .cons h1 (RepL.take n h2)
theorem RepL.cut {K : PySem.W.Frag} {F : Hp} {ds : List D} {xs : List V} (h : RepL K C F ds xs) (lo hi : Option Int) : RepL K C F (cutD ds lo hi) (cutV xs lo hi) := by
  unfold cutD cutV
  rw [h.len]
  exact (h.drop _).take _
theorem RepL.reverse {K : PySem.W.Frag} {F : Hp} : ∀ {ds : List D} {xs : List V}, RepL K C F ds xs → RepL K C F ds.reverse xs.reverse
  | [], _, h => by unfold RepL at h; subst h; exact .nil
  | d :: ds, _, h => by
    unfold RepL at h
    obtain ⟨x, r, e, h1, h2⟩ := h
    subst e
    rw [List.reverse_cons, List.reverse_cons]
    exact (RepL.reverse h2).append (.cons h1 .nil)
/-- x[::-1] -/
def gRev : G1 := fun x μ Q => ∃ ds, getL μ x = some ds ∧ Q (.lst ds.reverse) μ
theorem up_rev {k p1 p3 : _} (ha : PE X a (upE X.K C W wa)) : PE X (.Subscript a (.Slice none none (some (.UnaryOp .USub (.Constant (.int 1) k p1) p2)) p3) pos) (upE X.K C W (wUn gRev wa)) :=
  PE.imp (pe_revL ha) fun σ H Q ⟨L, F, ρ, μ, Q0, E0, rl, q, uq, ux⟩ => by
    refine ⟨L, F, ρ, μ, _, E0, rl, q, fun d1 μ1 q1 F1 H1 v1 s1 w1 r1 => ?_, ux⟩
    obtain ⟨ds, e, q⟩ := q1
    obtain ⟨p, ys, rfl, hp, rl'⟩ := w1.getL r1 e
    refine ⟨p, ys, rfl, hp, fun l hl => ?_⟩
    have hf := (w1.fresh hl).2
    exact uq _ _ q (upd F1 l (.lst ys.reverse)) _ _ (s1.trans (Sub.new hf)) (w1.frz hl) (.ofLst upd_same (rl'.reverse.mono (Sub.new hf)))
/-- x[lo:hi] -/
def gSl : D → Option Int → Option Int → Mu → PQ → Prop := fun x lo hi μ Q =>
  (∃ s, x = .str s ∧ s.length ≤ sizeLine ∧ Q (.str (cutS s lo hi)) μ) ∨ (∃ ds, getL μ x = some ds ∧ Q (.lst (cutD ds lo hi)) μ) ∨ (∃ ds, x = .tup ds ∧ Q (.tup (cutD ds lo hi)) μ)
def wSl (g : D → Option Int → Option Int → Mu → PQ → Prop) (wa : WE) (wl wh : WO) : WE := fun ρ μ Q E => wa ρ μ (fun x μ1 => wl ρ μ1 (fun lo μ2 => wh ρ μ2 (fun hi μ3 => g x lo hi μ3 Q) E) E) E
theorem up_sl {lo hi : Option Expr} {wl wh : WO} (ha : PE X a (upE X.K C W wa)) (hl : PO X lo (upO X.K C W wl)) (hh : PO X hi (upO X.K C W wh)) : PE X (.Subscript a (.Slice lo hi none p2) pos) (upE X.K C W (wSl gSl wa wl wh)) :=
  PE.imp (pe_slice (sl_str.or (sl_list.or sl_tupA)) ha hl hh) fun σ H Q ⟨L, F, ρ, μ, Q0, E0, rl, q, uq, ux⟩ => by
    refine ⟨L, F, ρ, μ, _, E0, rl, q, fun d1 μ1 q1 F1 H1 v1 s1 w1 r1 => ?_, ux⟩
    refine ⟨L, F1, ρ, μ1, _, E0, rl.to s1 w1, q1, fun lo μ2 q2 F2 H2 s2 w2 => ?_, ux.mono s1⟩
    refine ⟨L, F2, ρ, μ2, _, E0, rl.to (s1.trans s2) w2, q2, fun hi μ3 q3 F3 H3 s3 w3 => ?_, ux.mono (s1.trans s2)⟩
    have r3 := r1.mono (s2.trans s3)
    have uq3 := uq.mono ((s1.trans s2).trans s3)
    rcases q3 with ⟨s, rfl, h, q⟩ | ⟨ds, e, q⟩ | ⟨ds, rfl, q⟩
    · exact .inl ⟨s, r3.str, h, uq3 _ _ q F3 H3 _ (Sub.refl _) w3 .ofStr⟩
    · obtain ⟨p, ys, rfl, hp, rl'⟩ := w3.getL r3 e
      refine .inr (.inl ⟨p, ys, rfl, hp, fun l hl => ?_⟩)
      have hf := (w3.fresh hl).2
      exact uq3 _ _ q (upd F3 l (.lst (cutV ys lo hi))) _ _ (Sub.new hf) (w3.frz hl) (.ofLst upd_same ((rl'.cut lo hi).mono (Sub.new hf)))
    · obtain ⟨p, ys, rfl, hp, rl'⟩ := r3.tup
      refine .inr (.inr ⟨p, ys, rfl, w3.sub.sqT hp, fun hw => ?_, fun _ l hl => ?_⟩)
      · have ec : cutD ds lo hi = ds := by
          unfold cutD
          rw [← rl'.len, hw.1, hw.2, List.drop_zero, Nat.sub_zero]
          exact List.take_of_length_le (Nat.le_of_eq rl'.len.symm)
        rw [ec] at q
        exact uq3 _ _ q F3 H3 _ (Sub.refl _) w3 (.ofTup hp rl')
      · have hf := (w3.fresh hl).2
        exact uq3 _ _ q (upd F3 l (.tup (cutV ys lo hi))) _ _ (Sub.new hf) (w3.frz hl) (.ofTup (.of upd_same) ((rl'.cut lo hi).mono (Sub.new hf)))

/-! ### methods of built-in types -/
abbrev GM := D → List D → Mu → PQ → Prop
/-- the built-in type whose method is asked; tuples of the program only by their own rule -/
def tym (μ : Mu) : D → Option String
  | .str _ => some "str"
  | .dct _ => some "dict"
  | .raw a => match μ a with
    | some (.lst _) => some "list"
    | some (.dct _) => some "dict"
    | _ => none
  | .lst _ => some "list"
  | _ => none
theorem Wd.tyv {K : PySem.W.Frag} {F H : Hp} {μ : Mu} {d : D} {v : V} {s : String} (wd : Wd K C L F μ H) (r : Rep K C F d v) (h : tym μ d = some s) : tyV K s v H := by
  cases d with
  | str b => cases h; cases r.str; rfl
  | lst b => cases h; obtain ⟨a, xs, rfl, q, _⟩ := r.lst; exact .inl ⟨rfl, xs, .of (wd.sub _ _ q)⟩
  | dct b => cases h; obtain ⟨a, xs, rfl, q, _⟩ := r.dct; exact .inr (.inr (.inl ⟨rfl, .inl ⟨xs, wd.sub _ _ q⟩⟩))
  | raw a =>
    cases r.raw
    simp only [tym] at h
    split at h
    · rename_i e; cases h; obtain ⟨xs, q, _⟩ := wd.raw e; exact .inl ⟨rfl, xs, .of q⟩
    · rename_i e; cases h; obtain ⟨xs, q, _⟩ := wd.rawK e; exact .inr (.inr (.inl ⟨rfl, .inl ⟨xs, q⟩⟩))
    · cases h
  | _ => cases h
def MtD (X : Cx) (C : CT) (id : String) (g : GM) : Prop :=
  ∃ r, MtR X id r ∧ ∀ L F μ H x v xs vs Q0 Q, Wd X.K C L F μ H → Rep X.K C F x v → RepL X.K C F xs vs → g x xs μ Q0 → upQ X.K C L F Q0 Q → r v vs H Q
def wMt (T : String) (g : GM) (wo : WE) (was : WA) : WE := fun ρ μ Q E => wo ρ μ (fun x μ1 => tym μ1 x = some T ∧ was ρ μ1 (fun xs μ2 => g x xs μ2 Q) E) E
theorem up_bm {T id : String} {name : Str} {g : GM} (pa : PlainAttrs T) (slot : Slot T name id) (hty : typeOf (.builtin id) = pure (.type "method_descriptor")) (hm : MtD X C id g) (ho : PE X o (upE X.K C W wo)) (ha : PA X (e :: es) (upA X.K C W was))
    (hbase : attributeBase o name X.env (eval o X.env) = eval o X.env)
    (hfew : ((backTo cpos (starEach (e :: es) X.env)).all (fun x => !x.1) && (backToKw cpos (keywordEach [] X.env)).all (fun x => x.1.isSome)
      && decide ((e :: es).length + ([] : List Keyword).length + (if ([] : List Keyword).isEmpty then 0 else 1) < 30)) = true)
    (hline : (apos.endLine == cpos.line) = true) (hs : starEach (e :: es) X.env = (false, eval e X.env) :: starEach es X.env) (hplain : (backTo cpos (starEach es X.env)).any (·.1) = false) :
    PE X (.Call (.Attribute o name apos) (e :: es) [] cpos) (upE X.K C W (wMt T g wo was)) := by
  obtain ⟨r, h1, h2⟩ := hm
  refine PE.imp (pe_bm pa slot hty h1 ho ha hbase hfew hline hs hplain) fun σ H Q ⟨L, F, ρ, μ, Q0, E0, rl, q, uq, ux⟩ => ?_
  refine ⟨L, F, ρ, μ, _, E0, rl, q, fun d1 μ1 q1 F1 H1 v1 s1 w1 r1 => ⟨w1.tyv r1 q1.1, ?_⟩, ux⟩
  refine ⟨L, F1, ρ, μ1, _, E0, rl.to s1 w1, q1.2, fun ds μ2 q2 F2 H2 vs s2 w2 r2 => ?_, ux.mono s1⟩
  exact h2 L F2 μ2 H2 d1 v1 ds vs Q0 Q w2 (r1.mono s2) r2 q2 (uq.mono (s1.trans s2))
theorem up_bm0 {T id : String} {name : Str} {g : GM} (pa : PlainAttrs T) (slot : Slot T name id) (hty : typeOf (.builtin id) = pure (.type "method_descriptor")) (hm : MtD X C id g) (ho : PE X o (upE X.K C W wo))
    (hbase : attributeBase o name X.env (eval o X.env) = eval o X.env) (hline : (apos.endLine == cpos.line) = true) : PE X (.Call (.Attribute o name apos) [] [] cpos) (upE X.K C W (wMt T g wo wNil)) := by
  obtain ⟨r, h1, h2⟩ := hm
  refine PE.imp (pe_bm0 pa slot hty h1 ho hbase hline) fun σ H Q ⟨L, F, ρ, μ, Q0, E0, rl, q, uq, ux⟩ => ?_
  refine ⟨L, F, ρ, μ, _, E0, rl, q, fun d1 μ1 q1 F1 H1 v1 s1 w1 r1 => ⟨w1.tyv r1 q1.1, ?_⟩, ux⟩
  exact h2 L F1 μ1 H1 d1 v1 [] [] Q0 Q w1 r1 .nil q1.2 (uq.mono s1)
def gAppend : GM := fun x xs μ Q => ∃ a ds d, x = .raw a ∧ xs = [d] ∧ μ a = some (.lst ds) ∧ ds.length < sizeLine ∧ Q .non (mset μ a (.lst (ds ++ [d])))
theorem mtd_append : MtD X C "list.append" gAppend := ⟨_, mt_append, fun L F μ H x v xs vs Q0 Q wd rx rv q uq => by
  obtain ⟨a, ds, d, rfl, rfl, hm, hl, q⟩ := q
  obtain ⟨u, rfl, ru⟩ := rv.one
  obtain ⟨ys, hy, ry⟩ := wd.raw hm
  refine ⟨a, ys, u, rx.raw, rfl, hy, by rw [ry.len]; exact hl, ?_⟩
  exact uq _ _ q F _ _ (Sub.refl F) (wd.put hm ⟨_, upd_same, ry.append (.cons ru .nil)⟩) .ofNon⟩
def gGet : GM := fun x xs μ Q => ∃ ks y k, getK μ x = some ks ∧ keyOf y = some k ∧ ((xs = [y] ∧ Q ((look ks k).getD .non) μ) ∨ (∃ z, xs = [y, z] ∧ Q ((look ks k).getD z) μ))
theorem mt_get (hu : X.A.units + 1 < cLine) : MtR X "dict.get" (fun x xs H Q => ∃ a y o, x = .ref a ∧ DGet H a y o ∧ ((xs = [y] ∧ Q (o.getD .non) H) ∨ ∃ z, xs = [y, z] ∧ Q (o.getD z) H)) := by
  intro pins s σ H x xs v us Q I rx rv h
  obtain ⟨a, y, o, rfl, g, h⟩ := h
  obtain rfl : v = Value.ref a := rx
  rcases h with ⟨rfl, q⟩ | ⟨z, rfl, q⟩
  · obtain ⟨u, rfl, ru⟩ := vals1 rv
    exact d_get1 hu I g ru fun w' s' I' rw' => ⟨_, H, I', rw', q⟩
  · obtain ⟨u, u2, rfl, ru, ru2⟩ := vals2 rv
    exact d_get2 hu I g ru ru2 fun w' s' I' rw' => ⟨_, H, I', rw', q⟩
theorem mtd_get (hu : X.A.units + 1 < cLine) : MtD X C "dict.get" gGet := ⟨_, mt_get hu, fun L F μ H x v xs vs Q0 Q wd rx rv q uq => by
  obtain ⟨ks, y, k, hk, hy, q⟩ := q
  obtain ⟨p, ys, rfl, hp, rk⟩ := wd.getK rx hk
  have hl := rk.look (k := k)
  rcases q with ⟨rfl, q⟩ | ⟨z, rfl, q⟩
  · obtain ⟨u, rfl, ru⟩ := rv.one
    cases keyOf_kV ru hy
    refine ⟨p, _, valV ys k, rfl, DGet.k hp, .inl ⟨rfl, ?_⟩⟩
    cases e : look ks k with
    | none =>
      rw [hl.2 e]
      rw [e] at q
      exact uq _ _ q F H _ (Sub.refl F) wd .ofNon
    | some d =>
      obtain ⟨v, hv, rv⟩ := hl.1 d e
      rw [hv]
      rw [e] at q
      exact uq _ _ q F H _ (Sub.refl F) wd rv
  · obtain ⟨u, u2, rfl, ru, ru2⟩ := rv.two
    cases keyOf_kV ru hy
    refine ⟨p, _, valV ys k, rfl, DGet.k hp, .inr ⟨u2, rfl, ?_⟩⟩
    cases e : look ks k with
    | none =>
      rw [hl.2 e]
      rw [e] at q
      exact uq _ _ q F H _ (Sub.refl F) wd ru2
    | some d =>
      obtain ⟨v, hv, rv⟩ := hl.1 d e
      rw [hv]
      rw [e] at q
      exact uq _ _ q F H _ (Sub.refl F) wd rv⟩

/-! ### dict displays -/
def kput (ks : List (Key × D)) (k : Key) (d : D) : List (Key × D) :=
  if (ks.any fun kv => decide (kv.1 = k)) = true then ks.map (fun kv => if kv.1 = k then (kv.1, d) else kv) else ks ++ [(k, d)]
def kmerge (ks more : List (Key × D)) : List (Key × D) := more.foldl (fun acc kv => kput acc kv.1 kv.2) ks
theorem RepK.append {K : PySem.W.Frag} {F : Hp} : ∀ {ds es : List (Key × D)} {xs ys : List (Key × V)}, RepK K C F ds xs → RepK K C F es ys → RepK K C F (ds ++ es) (xs ++ ys)
  | [], _, _, _, h, t => by unfold RepK at h; subst h; exact t
  | (k, d) :: ds, _, _, _, h, t => by
    unfold RepK at h
    obtain ⟨x, r, e', h1, h2⟩ := h
    subst e'
    have := h2.append t
    rw [List.cons_append, List.cons_append]
    unfold RepK
    exact ⟨_, _, rfl, h1, this⟩
theorem RepK.nil {K : PySem.W.Frag} {F : Hp} : RepK K C F [] [] := by unfold RepK; rfl
theorem RepK.cons {K : PySem.W.Frag} {F : Hp} {k : Key} {d : D} {v : V} {ds : List (Key × D)} {xs : List (Key × V)} (h : Rep K C F d v) (t : RepK K C F ds xs) : RepK K C F ((k, d) :: ds) ((k, v) :: xs) := by
  unfold RepK; exact ⟨v, xs, rfl, h, t⟩
theorem RepK.any {K : PySem.W.Frag} {F : Hp} {k : Key} : ∀ {ds : List (Key × D)} {xs : List (Key × V)}, RepK K C F ds xs → (xs.any fun kv => decide (kv.1 = k)) = ds.any fun kv => decide (kv.1 = k)
  | [], _, h => by unfold RepK at h; subst h; rfl
  | (k', d) :: ds, _, h => by
    unfold RepK at h
    obtain ⟨x, r, e', h1, h2⟩ := h
    subst e'
    rw [List.any_cons, List.any_cons, h2.any]
theorem RepK.mapput {K : PySem.W.Frag} {F : Hp} {k : Key} {d : D} {v : V} (rv : Rep K C F d v) : ∀ {ds : List (Key × D)} {xs : List (Key × V)}, RepK K C F ds xs →
    RepK K C F (ds.map fun kv => if kv.1 = k then (kv.1, d) else kv) (xs.map fun kv => if kv.1 = k then (kv.1, v) else kv)
  | [], _, h => by unfold RepK at h; subst h; exact .nil
  | (k', d') :: ds, _, h => by
    unfold RepK at h
    obtain ⟨x, r, e', h1, h2⟩ := h
    subst e'
    rw [List.map_cons, List.map_cons]
    by_cases hk : k' = k
    · simp only [hk, if_true]
      exact .cons rv (RepK.mapput rv h2)
    · simp only [hk, if_false]
      exact .cons h1 (RepK.mapput rv h2)
theorem RepK.put {K : PySem.W.Frag} {F : Hp} {k : Key} {d : D} {v : V} {ds : List (Key × D)} {xs : List (Key × V)} (h : RepK K C F ds xs) (rv : Rep K C F d v) : RepK K C F (kput ds k d) (putK xs k v) := by
  unfold kput putK
  rw [h.any]
  split
  · exact h.mapput rv
  · exact h.append (.cons rv .nil)
theorem RepK.merge {K : PySem.W.Frag} {F : Hp} : ∀ {es ds : List (Key × D)} {ys xs : List (Key × V)}, RepK K C F es ys → RepK K C F ds xs → RepK K C F (kmerge ds es) (mergeK xs ys)
  | [], _, _, _, h, t => by unfold RepK at h; subst h; exact t
  | (k, d) :: es, ds, _, xs, h, t => by
    unfold RepK at h
    obtain ⟨x, r, e', h1, h2⟩ := h
    subst e'
    unfold kmerge mergeK
    rw [List.foldl_cons, List.foldl_cons]
    exact RepK.merge h2 (t.put h1)
end
end T2

set_option maxRecDepth 100000
set_option maxHeartbeats 4000000
namespace T2
open PySem PySem.Spec PyProof.Rows L2

/-! ### what a loop walks -/
/-- J goes through ds, as long as g stands -/
structure SrcOk (K : PySem.W.Frag) (C : CT) (J : It) (F : Hp) (g : Mu → Prop) (ds : List D) : Prop where
  stop : ∀ L G μ H, Sub F G → Wd K C L G μ H → g μ → J.stop ds.length H
  go : ∀ (i : Nat) L G μ H, i < ds.length → Sub F G → Wd K C L G μ H → g μ → J.go i H
  yld : ∀ (i : Nat) L G μ H x H' d, Sub F G → Wd K C L G μ H → g μ → ds[i]? = some d → J.yld i H x H' → ∃ G', Sub G G' ∧ Wd K C L G' μ H' ∧ Rep K C G' d x
abbrev WI := Env → Mu → (List D → (Mu → Prop) → Mu → Prop) → PX → Prop
def upI (K : PySem.W.Frag) (C : CT) (W : WX) (wi : WI) : TI := fun σ H R => ∃ L F ρ μ Q0 E0, Rl K C L F ρ μ σ H ∧ wi ρ μ Q0 E0 ∧
  (∀ ds g μ', Q0 ds g μ' → ∀ F' H' J, Sub F F' → Wd K C L F' μ' H' → SrcOk K C J F' g ds → R J H') ∧ upX K C L F σ E0 W
theorem PI.imp {X : Cx} {tg e : Expr} {t t' : TI} (h : PI X tg e t) (i : ∀ σ H R, t' σ H R → t σ H R) : PI X tg e t' := ⟨fun pins s σ H Q I q => h.run pins s σ H Q I (i σ H Q q)⟩
theorem PG.imp {X : Cx} {tg : Expr} {t t' : TG} (h : PG X tg t) (i : ∀ v σ H R, t' v σ H R → t v σ H R) : PG X tg t' := ⟨fun pins s σ H v u Q I r q => h.run pins s σ H v u Q I r (i v σ H Q q)⟩
def iAny (K : PySem.W.Frag) (te : TE) : TI := fun σ H R => te σ H fun x H1 =>
  (∃ a, x = .ref a ∧ (∃ xs, SqL K H1 a xs) ∧ R (Itl K a) H1) ∨ (∃ a, x = .ref a ∧ (∃ xs, SqT K H1 a xs) ∧ R (Itt K a) H1) ∨ (∃ s, x = .str s ∧ R (Its s) H1)
theorem pi_any {X : Cx} {tg e : Expr} {te : TE} (he : PE X e te) : PI X tg e (iAny X.K te) := by
  constructor
  intro pins s σ H R I h
  refine thn (he.run pins s σ H _ I h) ?_
  rintro v s1 ⟨x, H1, I1, r1, hq⟩
  rcases hq with ⟨a, rfl, ⟨xs, hs⟩, q⟩ | ⟨a, rfl, ⟨xs, hs⟩, q⟩ | ⟨z, rfl, q⟩
  · obtain rfl : v = Value.ref a := r1
    obtain ⟨its, _, pl, _⟩ := I1.list hs
    refine wpAny_pyIter_list pl.isList ?_
    have st : (fun (i : Nat) (h : Heap) => h.IsListIter s1.heap.objs.size a i) 0 (s1.heap.push { cls := .type "list_iterator", data := .fields #[.ref a, .int 0 0] }) := ⟨_, Heap.get?_push_size _ rfl, rfl, rfl⟩
    exact pi_one (tk := s1.toks) I1 _ (turn_list a _) st q
  · obtain rfl : v = Value.ref a := r1
    obtain ⟨its, _, pl, _⟩ := I1.tuple hs
    refine wpAny_pyIter_tuple (show s1.heap.IsTuple a its.toArray from pl) ?_
    exact pi_one (tk := s1.toks) I1 _ (turn_tuple a _) ⟨_, Heap.get?_push_size _ rfl, rfl, rfl⟩ q
  · obtain ⟨t, rfl⟩ := (show ∃ t, v = Value.str z t from r1)
    cases ha : z.cps.all (· < 128)
    · refine wpAny_pyIter_wide ha ?_
      exact pi_one (tk := s1.toks) I1 _ (turn_str _ z t "str_iterator" (.inr rfl)) ⟨_, Heap.get?_push_size _ rfl, rfl, rfl⟩ q
    · refine wpAny_pyIter_ascii ha ?_
      exact pi_one (tk := s1.toks) I1 _ (turn_str _ z t "str_ascii_iterator" (.inl rfl)) ⟨_, Heap.get?_push_size _ rfl, rfl, rfl⟩ q
/-- the signs of a text -/
def signs (s : Str) : List D := s.cps.toList.map fun c => .str ⟨#[c]⟩
/-- what is gone through: its items, and what must stay for it -/
def wIt (wa : WE) : WI := fun ρ μ Q E => wa ρ μ (fun x μ1 => (∃ ds, getS μ1 x = some ds ∧ Q ds (fun μ' => getS μ' x = some ds) μ1) ∨ (∃ s, x = .str s ∧ Q (signs s) (fun _ => True) μ1)) E
section
variable {X : Cx} {C : CT} {W : WX} {tg a b c e o : Expr} {es : List Expr} {wa wb wc wo : WE} {was wks : WA} {p pos apos cpos p2 : Pos} {x : Str}
theorem src_list {K : PySem.W.Frag} {F : Hp} {x : D} {ds : List D} {a : Addr} (r : Rep K C F x (.ref a)) (he : ∀ μ, T2.getS μ x = some ds → T2.getL μ x = some ds) : SrcOk K C (Itl K a) F (fun μ' => T2.getS μ' x = some ds) ds where
  stop := fun L G μ H s w h => by
    obtain ⟨p, xs, e1, e2, e3⟩ := w.getL (r.mono s) (he μ h)
    cases e1
    exact ⟨xs, e2, Nat.le_of_eq e3.len⟩
  go := fun i L G μ H hi s w h => by
    obtain ⟨p, xs, e1, e2, e3⟩ := w.getL (r.mono s) (he μ h)
    cases e1
    have hi' : i < xs.length := by rw [e3.len]; exact hi
    exact ⟨xs, xs[i], e2, List.getElem?_eq_getElem hi'⟩
  yld := fun i L G μ H v H' d s w h hd hy => by
    obtain ⟨p, xs, e1, e2, e3⟩ := w.getL (r.mono s) (he μ h)
    cases e1
    obtain ⟨rfl, hx⟩ := hy
    obtain ⟨u, hu, ru⟩ := e3.at hd
    have := (hx xs e2).symm.trans hu
    cases this
    exact ⟨G, Sub.refl G, w, ru⟩
theorem src_tup {K : PySem.W.Frag} {F : Hp} {ds : List D} {a : Addr} (r : Rep K C F (.tup ds) (.ref a)) {g : Mu → Prop} : SrcOk K C (Itt K a) F g ds where
  stop := fun L G μ H s w h => by
    obtain ⟨p, xs, e1, e2, e3⟩ := (r.mono s).tup
    cases e1
    exact ⟨xs, w.sub.sqT e2, Nat.le_of_eq e3.len⟩
  go := fun i L G μ H hi s w h => by
    obtain ⟨p, xs, e1, e2, e3⟩ := (r.mono s).tup
    cases e1
    have hi' : i < xs.length := by rw [e3.len]; exact hi
    exact ⟨xs, xs[i], w.sub.sqT e2, List.getElem?_eq_getElem hi'⟩
  yld := fun i L G μ H v H' d s w h hd hy => by
    obtain ⟨p, xs, e1, e2, e3⟩ := (r.mono s).tup
    cases e1
    obtain ⟨rfl, hx⟩ := hy
    obtain ⟨u, hu, ru⟩ := e3.at hd
    have := (hx xs (w.sub.sqT e2)).symm.trans hu
    cases this
    exact ⟨G, Sub.refl G, w, ru⟩
theorem src_str {K : PySem.W.Frag} {F : Hp} {z : Str} {g : Mu → Prop} : SrcOk K C (Its z) F g (signs z) where
  stop := fun L G μ H s w h => by
    show z.cps.size ≤ (signs z).length
    unfold signs
    rw [List.length_map, Array.length_toList]
    exact Nat.le_refl _
  go := fun i L G μ H hi s w h => by
    unfold signs at hi
    rw [List.length_map, Array.length_toList] at hi
    exact hi
  yld := fun i L G μ H v H' d s w h hd hy => by
    obtain ⟨rfl, c, hc, rfl⟩ := hy
    unfold signs at hd
    rw [List.getElem?_map, Array.getElem?_toList, hc] at hd
    cases hd
    exact ⟨G, Sub.refl G, w, .ofStr⟩
theorem up_it (ha : PE X a (upE X.K C W wa)) : PI X tg a (upI X.K C W (wIt wa)) := PI.imp (pi_any ha) fun σ H R ⟨L, F, ρ, μ, Q0, E0, rl, q, uq, ux⟩ => by
  refine ⟨L, F, ρ, μ, _, E0, rl, q, fun d1 μ1 q1 F1 H1 v1 s1 w1 r1 => ?_, ux⟩
  rcases q1 with ⟨ds, e, q⟩ | ⟨z, rfl, q⟩
  · obtain ⟨p, xs, rfl, hp, rl'⟩ := w1.getS r1 e
    cases d1 with
    | tup es =>
      cases e
      obtain ⟨p', xs', e', hp', _⟩ := r1.tup
      cases e'
      exact .inr (.inl ⟨p, rfl, ⟨xs', w1.sub.sqT hp'⟩, uq _ _ _ q F1 H1 _ s1 w1 (src_tup r1)⟩)
    | _ =>
      obtain ⟨p', xs', e', hp', _⟩ := w1.getL r1 (by first | exact e | (cases e))
      cases e'
      exact .inl ⟨p, rfl, ⟨xs', hp'⟩, uq _ _ _ q F1 H1 _ s1 w1 (src_list r1 fun μ h => h)⟩
  · cases r1.str
    exact .inr (.inr ⟨z, rfl, uq _ _ _ q F1 H1 _ s1 w1 src_str⟩)
/-- range(n), range(a, b) -/
def rngD (lo : Int) (n : Nat) : List D := (List.range n).map fun (i : Nat) => .int (lo + (i : Int))
theorem src_rng {K : PySem.W.Frag} {F : Hp} {lo : Int} {n : Nat} {g : Mu → Prop} : SrcOk K C (Itr lo n) F g (rngD lo n) where
  stop := fun L G μ H s w h => by
    show n ≤ (rngD lo n).length
    unfold rngD
    rw [List.length_map, List.length_range]
    exact Nat.le_refl _
  go := fun i L G μ H hi s w h => by
    unfold rngD at hi
    rw [List.length_map, List.length_range] at hi
    exact hi
  yld := fun i L G μ H v H' d s w h hd hy => by
    obtain ⟨rfl, rfl⟩ := hy
    unfold rngD at hd
    rw [List.getElem?_map] at hd
    cases e : (List.range n)[i]? with
    | none => rw [e] at hd; cases hd
    | some j =>
      rw [e] at hd
      cases hd
      obtain ⟨h1, h2⟩ := List.getElem?_eq_some_iff.mp e
      rw [List.getElem_range] at h2
      subst h2
      exact ⟨G, Sub.refl G, w, .ofInt⟩
def wRng1 (wa : WE) : WI := fun ρ μ Q E => wa ρ μ (fun d μ1 => ∃ j, d = .int j ∧ -(2 ^ 62) ≤ j ∧ j < 2 ^ 62 ∧ Q (rngD 0 j.toNat) (fun _ => True) μ1) E
def wRng2 (wa wb : WE) : WI := fun ρ μ Q E => wa ρ μ (fun d μ1 => wb ρ μ1 (fun d2 μ2 => ∃ i j, d = .int i ∧ d2 = .int j ∧ (-(2 ^ 62) ≤ i ∧ i < 2 ^ 62 ∧ -(2 ^ 62) ≤ j ∧ j < 2 ^ 62) ∧ Q (rngD i (j - i).toNat) (fun _ => True) μ2) E) E
theorem up_rng1 (hg : Gl X "range") (hm : X.mg "range" = none) (ha : PE X a (upE X.K C W wa)) (hs : starEach [a] X.env = [(false, eval a X.env)]) : PI X tg (.Call (.Name "range" p) [a] [] pos) (upI X.K C W (wRng1 wa)) :=
  PI.imp (pi_range1 hg hm (pa_cons ha pa_nil hs) hs) fun σ H R ⟨L, F, ρ, μ, Q0, E0, rl, q, uq, ux⟩ => by
    refine ⟨L, F, ρ, μ, _, E0, rl, q, fun d μ1 q1 F1 H1 v s1 w1 r1 => ?_, ux⟩
    obtain ⟨j, rfl, h1, h2, q⟩ := q1
    exact ⟨j, by rw [r1.int], h1, h2, uq _ _ _ q F1 H1 _ s1 w1 src_rng⟩
theorem up_rng2 (hg : Gl X "range") (hm : X.mg "range" = none) (ha : PE X a (upE X.K C W wa)) (hb : PE X b (upE X.K C W wb)) (hs : starEach [a, b] X.env = [(false, eval a X.env), (false, eval b X.env)]) (hs2 : starEach [b] X.env = [(false, eval b X.env)]) :
    PI X tg (.Call (.Name "range" p) [a, b] [] pos) (upI X.K C W (wRng2 wa wb)) :=
  PI.imp (pi_range2 hg hm (pa_cons ha (pa_cons hb pa_nil hs2) (by rw [hs, hs2])) hs hs2) fun σ H R ⟨L, F, ρ, μ, Q0, E0, rl, q, uq, ux⟩ => by
    refine ⟨L, F, ρ, μ, _, E0, rl, q, fun d μ1 q1 F1 H1 v s1 w1 r1 => ?_, ux⟩
    refine ⟨L, F1, ρ, μ1, _, E0, rl.to s1 w1, q1, fun d2 μ2 q2 F2 H2 v2 s2 w2 r2 => ?_, ux.mono s1⟩
    obtain ⟨i, j, rfl, rfl, hb, q⟩ := q2
    exact ⟨i, j, by rw [r1.int, r2.int], hb, uq _ _ _ q F2 H2 _ (s1.trans s2) w2 src_rng⟩

/-! ### targets -/
abbrev WG := D → Env → Mu → (Env → Prop) → Prop
def upG (K : PySem.W.Frag) (C : CT) (g : WG) : TG := fun v σ H Q => ∃ L F ρ μ d Q0, Rl K C L F ρ μ σ H ∧ Rep K C F d v ∧ g d ρ μ Q0 ∧ (∀ ρ', Q0 ρ' → ∀ σ', Rl K C L F ρ' μ σ' H → Q σ' H)
def wgName (i : Nat) : WG := fun d ρ μ Q => Q (ρ.set i (some d))
theorem up_gname {i : Nat} (h : PG X tg (gName i)) : PG X tg (upG X.K C (wgName i)) := PG.imp h fun v σ H Q ⟨L, F, ρ, μ, d, Q0, rl, r, q, uq⟩ => uq _ q _ (rl.set i r)
/-- several names, by a tuple or a list -/
def setAll : List Nat → List D → Env → Env
  | i :: is, d :: ds, ρ => setAll is ds (ρ.set i (some d))
  | _, _, ρ => ρ
def setV : List Nat → List V → St → St
  | i :: is, v :: vs, σ => setV is vs (σ.set i (some v))
  | _, _, σ => σ
def wgTup (is : List Nat) : WG := fun d ρ μ Q => ∃ ds, getS μ d = some ds ∧ ds.length = is.length ∧ Q (setAll is ds ρ)
def gNames : List Nat → TGs
  | [] => gNil
  | i :: is => gCons (gName i) (gNames is)
theorem gNames_ok : ∀ {is : List Nat} {vs : List V} {σ : St} {H : Hp} {Q : St → Hp → Prop}, vs.length = is.length → Q (setV is vs σ) H → gNames is vs σ H Q
  | [], [], σ, H, Q, _, q => ⟨rfl, q⟩
  | i :: is, v :: vs, σ, H, Q, h, q => ⟨v, vs, rfl, gNames_ok (by simpa using h) q⟩
  | [], _ :: _, σ, H, Q, h, _ => by cases h
  | _ :: _, [], σ, H, Q, h, _ => by cases h
theorem Rl.setAll {K : PySem.W.Frag} {L F H : Hp} {μ : Mu} : ∀ {is : List Nat} {ds : List D} {vs : List V} {ρ : Env} {σ : St}, Rl K C L F ρ μ σ H → RepL K C F ds vs → Rl K C L F (T2.setAll is ds ρ) μ (setV is vs σ) H
  | [], _, _, _, _, r, _ => r
  | i :: is, [], vs, ρ, σ, r, h => by unfold RepL at h; subst h; exact r
  | i :: is, d :: ds, vs, ρ, σ, r, h => by
    unfold RepL at h
    obtain ⟨x, rr, e, h1, h2⟩ := h
    subst e
    have q := Rl.setAll (is := is) (r.set i h1) h2
    exact q
end
end T2

set_option maxRecDepth 100000
set_option maxHeartbeats 4000000
namespace T2
open PySem PySem.Spec PyProof.Rows L2
section
variable {X : Cx} {C : CT} {W : WX} {tg a b c e o : Expr} {es : List Expr} {wa wb wc wo : WE} {was wks : WA} {p pos apos cpos p2 : Pos} {x : Str}
/-! ### list comprehensions -/
def wNever : PX := fun _ _ _ => False
/-- from the items ds on, acc is made -/
def lcLoop (gd : Mu → Prop) (g : WG) (tt : WT) (te : WE) (ρ : Env) (Q : List D → Mu → Prop) : List D → List D → Mu → Prop
  | [], acc, μ => gd μ ∧ Q acc μ
  | d :: ds, acc, μ => gd μ ∧ g d ρ μ fun ρ1 => tt ρ1 μ (fun k μ1 => (k = true → te ρ1 μ1 (fun y μ2 => acc.length < sizeLine ∧ lcLoop gd g tt te ρ Q ds (acc ++ [y]) μ2) wNever) ∧ (k = false → lcLoop gd g tt te ρ Q ds acc μ1)) wNever
/-- [te for g in wi if tt]: never changed | that may change -/
def wLc (wi : WI) (g : WG) (tt : WT) (te : WE) : WE := fun ρ μ Q E => wi ρ μ (fun ds gd μ1 => lcLoop gd g tt te ρ (fun acc μ2 => Q (.lst acc) μ2) ds [] μ1) E
def wLcM (wi : WI) (g : WG) (tt : WT) (te : WE) : WE := fun ρ μ Q E => wi ρ μ (fun ds gd μ1 => lcLoop gd g tt te ρ (fun acc μ2 => ∀ a, μ2 a = none → Q (.raw a) (mset μ2 a (.lst acc))) ds [] μ1) E
def upTs (X : Cx) (C : CT) (W : WX) (ifs : List Expr) (tt : WT) : Prop := PTs X ifs (upT X.K C W tt)
def wYes : WT := fun _ μ Q _ => Q true μ
theorem PTs.imp {ifs : List Expr} {t t' : TT} (h : PTs X ifs t) (i : ∀ σ H Q, t' σ H Q → t σ H Q) : PTs X ifs t' := ⟨fun pins s σ H Q I q => h.run pins s σ H Q I (i σ H Q q)⟩
theorem up_yes : PTs X [] (upT X.K C W wYes) := PTs.imp pts_nil fun σ H Q ⟨L, F, ρ, μ, Q0, E0, rl, q, uq, ux⟩ => uq true μ q F H (Sub.refl F) rl.wd
theorem up_one {t : WT} (h : PT X a (upT X.K C W t)) : PTs X [a] (upT X.K C W t) := pts_one h
/-- a target that stores into the slots vs alone, whatever stood there -/
def Tgt (K : PySem.W.Frag) (C : CT) (g : WG) (tg : TG) (vs : List Nat) : Prop :=
  ∀ (L F : Hp) (ρ : Env) (μ : Mu) (σ : St) (H : Hp) (d : D) (v : V) (Q0 : Env → Prop) (Q : St → Hp → Prop), Rl K C L F ρ μ σ H → Rep K C F d v → g d ρ μ Q0 →
    (∀ ρ', Q0 ρ' → ∀ σ', Rl K C L F ρ' μ σ' H → wipe σ' vs = wipe σ vs → Q σ' H) → tg v (wipe σ vs) H Q
theorem tgt_name {K : PySem.W.Frag} {i : Nat} : Tgt K C (wgName i) (gName i) [i] := fun L F ρ μ σ H d v Q0 Q rl r q uq => by
  have e : (wipe σ [i]).set i (some v) = σ.set i (some v) := by
    show ((σ.set i none).set i (some v)) = _
    rw [List.set_set]
  show Q ((wipe σ [i]).set i (some v)) H
  rw [e]
  refine uq _ q _ (rl.set i r) ?_
  show (σ.set i (some v)).set i none = σ.set i none
  rw [List.set_set]
theorem Wd.lNone {K : PySem.W.Frag} {L F H : Hp} {μ : Mu} (w : Wd K C L F μ H) {a : Addr} (h : H a = none) : L a = none := by
  cases e : L a with
  | none => rfl
  | some o => have := w.lk a o e; rw [h] at this; cases this
abbrev WNo : WX := fun _ _ _ _ => False
theorem upX_no {K : PySem.W.Frag} {L F : Hp} {σ : St} {W' : WX} : upX K C L F σ wNever W' := fun c fs μ' h => h.elim
theorem up_lc0 {wi : WI} {g : WG} {tgr : TG} {tt : WT} {te : WE} {vs : List Nat} {w0 : WE} {Qd : PQ → List D → Mu → Prop} (tok : Tgt X.K C g tgr vs)
    (hw : ∀ ρ μ Q E, w0 ρ μ Q E → wi ρ μ (fun ds gd μ1 => lcLoop gd g tt te ρ (Qd Q) ds [] μ1) E)
    (fin : ∀ Q0 Q L F F' μ' H' D0 acc accV, Qd Q0 acc μ' → upQ X.K C L F Q0 Q → Sub F F' → Wd X.K C (upd L D0 (.lst accV)) F' μ' H' → RepL X.K C F' acc accV → L D0 = none → Q (.ref D0) H') :
    ∀ σ H Q, upE X.K C W w0 σ H Q → tLc (upI X.K C W wi) tgr (upT X.K C WNo tt) (upE X.K C WNo te) vs σ H Q := fun σ H Q ⟨L, F, ρ, μ, Q0, E0, rl, q, uq, ux⟩ => by
  refine ⟨L, F, ρ, μ, _, E0, rl, hw _ _ _ _ q, fun ds gd μ1 q1 F1 H1 J s1 w1 src => ?_, ux⟩
  intro D0 hD
  have hL := w1.lNone hD
  refine ⟨fun i m H => m = ds.length - i ∧ i ≤ ds.length ∧ ∃ acc accV F2 μ2, Sub F1 F2 ∧ Wd X.K C (upd L D0 (.lst accV)) F2 μ2 H ∧ RepL X.K C F2 acc accV ∧ lcLoop gd g tt te ρ (Qd Q0) (ds.drop i) acc μ2,
    ⟨ds.length, rfl, Nat.zero_le _, [], [], F1, μ1, Sub.refl F1, w1.lock hD, .nil, q1⟩, ?_⟩
  rintro i m H2 ⟨rfl, hi, acc, accV, F2, μ2, s2, w2, r2, lp⟩
  by_cases hlt : i < ds.length
  · rw [List.drop_eq_getElem_cons hlt] at lp
    obtain ⟨hg, lp⟩ := lp
    refine .inr ⟨src.go i _ F2 μ2 H2 hlt s2 w2 hg, fun H' => ∃ acc accV F2 μ2, Sub F1 F2 ∧ Wd X.K C (upd L D0 (.lst accV)) F2 μ2 H' ∧ RepL X.K C F2 acc accV ∧ lcLoop gd g tt te ρ (Qd Q0) (ds.drop (i + 1)) acc μ2,
      fun H' hn => ⟨ds.length - (i + 1), by omega, rfl, hlt, hn⟩, fun x H3 hy => ?_⟩
    obtain ⟨G, sG, wG, rG⟩ := src.yld i _ F2 μ2 H2 x H3 _ s2 w2 hg (List.getElem?_eq_getElem hlt) hy
    have rlG := rl.to' ((s1.trans s2).trans sG) wG
    refine tok _ G ρ μ2 σ H3 _ x _ _ rlG rG lp fun ρ1 q3 σ3 rl3 hwp => ⟨hwp, ?_⟩
    refine ⟨_, G, ρ1, μ2, _, wNever, rl3, q3, fun k μ4 q4 F4 H4 s4 w4 => ?_, upX_no⟩
    cases k with
    | false =>
      exact ⟨acc, accV, F4, μ4, (s2.trans sG).trans s4, w4, (r2.mono sG).mono s4, q4.2 rfl⟩
    | true =>
      refine ⟨_, F4, ρ1, μ4, _, wNever, rl3.to s4 w4, q4.1 rfl, fun d5 μ5 q5 F5 H5 v5 s5 w5 r5 => ?_, upX_no⟩
      refine ⟨accV, w5.lk D0 _ upd_same, by rw [r2.len]; exact q5.1, ?_⟩
      exact ⟨acc ++ [d5], accV ++ [v5], F5, μ5, ((s2.trans sG).trans s4).trans s5, w5.relock, (((r2.mono sG).mono s4).mono s5).append (.cons r5 .nil), q5.2⟩
  · have e : i = ds.length := by omega
    subst e
    rw [List.drop_length] at lp
    obtain ⟨hg, lp⟩ := lp
    exact .inl ⟨src.stop _ F2 μ2 H2 s2 w2 hg, fin Q0 Q L F F2 μ2 H2 D0 acc accV lp uq (s1.trans s2) w2 r2 hL⟩
theorem up_lcF {wi : WI} {g : WG} {tgr : TG} {tt : WT} {te : WE} {vs : List Nat} (tok : Tgt X.K C g tgr vs) : ∀ σ H Q, upE X.K C W (wLc wi g tt te) σ H Q → tLc (upI X.K C W wi) tgr (upT X.K C WNo tt) (upE X.K C WNo te) vs σ H Q :=
  up_lc0 (Qd := fun Q acc μ2 => Q (.lst acc) μ2) tok (fun _ _ _ _ h => h) fun Q0 Q L F F' μ' H' D0 acc accV q uq s w r hL =>
    uq _ _ q (upd F' D0 (.lst accV)) H' _ (s.trans (Sub.new (w.dj D0 _ upd_same))) (w.unlockF hL) (.ofLst upd_same (r.mono (Sub.new (w.dj D0 _ upd_same))))
theorem up_lcM {wi : WI} {g : WG} {tgr : TG} {tt : WT} {te : WE} {vs : List Nat} (tok : Tgt X.K C g tgr vs) : ∀ σ H Q, upE X.K C W (wLcM wi g tt te) σ H Q → tLc (upI X.K C W wi) tgr (upT X.K C WNo tt) (upE X.K C WNo te) vs σ H Q :=
  up_lc0 (Qd := fun Q acc μ2 => ∀ a, μ2 a = none → Q (.raw a) (mset μ2 a (.lst acc))) tok (fun _ _ _ _ h => h) fun Q0 Q L F F' μ' H' D0 acc accV q uq s w r hL =>
    uq _ _ (q D0 w.lockNone) F' H' _ s (w.unlockM hL ⟨accV, w.lk D0 _ upd_same, r⟩) .ofRaw
end
end T2

set_option maxRecDepth 100000
set_option maxHeartbeats 4000000
namespace T2
open PySem PySem.Spec PyProof.Rows L2
theorem UpK.mono {K : PySem.W.Frag} {C : CT} {W : WX} {L F G : Hp} {k : KS} {B : Ends} (u : UpK K C W L F k B) (s : Sub F G) : UpK K C W L G k B :=
  ⟨fun ρ' μ' h F' σ' H' s' => u.nx ρ' μ' h F' σ' H' (s.trans s'), fun ρ' μ' h F' σ' H' s' => u.bk ρ' μ' h F' σ' H' (s.trans s'), fun ρ' μ' h F' σ' H' s' => u.ct ρ' μ' h F' σ' H' (s.trans s'),
    fun d μ' h F' H' v s' => u.rt d μ' h F' H' v (s.trans s'), fun c fs ρ' μ' h F' σ' H' cls dx s' => u.ex c fs ρ' μ' h F' σ' H' cls dx (s.trans s')⟩
theorem UpK.x {K : PySem.W.Frag} {C : CT} {W : WX} {L F H : Hp} {k : KS} {B : Ends} {ρ : Env} {μ : Mu} {σ : St} (u : UpK K C W L F k B) (r : Rl K C L F ρ μ σ H) : upX K C L F σ (k.ex ρ) W := fun c fs μ' h F' H' cls dx s w x =>
  u.ex c fs ρ μ' h F' σ H' cls dx s (r.to s w) x
section
variable {X : Cx} {C : CT} {W : WX} {tg a b c e o : Expr} {es : List Expr} {wa wb wc wo we : WE} {was wks : WA} {wt : WT} {p pos apos cpos p2 pos' : Pos} {x : Str} {st : Stmt} {rest sts : List Stmt} {w w2 : WS} {i : Nat}
def wNext : WS := fun k ρ μ => k.nx ρ μ
def wSeq (w w2 : WS) : WS := fun k ρ μ => w { k with nx := fun ρ' μ' => w2 k ρ' μ' } ρ μ
theorem us_nil : PSs X [] (upS X.K C W wNext) := PSs.imp pss_nil fun B σ H ⟨L, F, ρ, μ, k, rl, q, u⟩ => u.nx ρ μ q F σ H (Sub.refl F) rl
theorem us_cons (h : PS X st (upS X.K C W w)) (h2 : PSs X rest (upS X.K C W w2)) : PSs X (st :: rest) (upS X.K C W (wSeq w w2)) := PSs.imp (pss_cons h h2) fun B σ H ⟨L, F, ρ, μ, k, rl, q, u⟩ =>
  ⟨L, F, ρ, μ, _, rl, q, fun ρ' μ' h F' σ' H' s r => ⟨L, F', ρ', μ', k, r, h, u.mono s⟩, u.bk, u.ct, u.rt, u.ex⟩
theorem us_pass : PS X (.Pass pos) (upS X.K C W wNext) := PS.imp ps_pass fun B σ H ⟨L, F, ρ, μ, k, rl, q, u⟩ => u.nx ρ μ q F σ H (Sub.refl F) rl
def wBreak : WS := fun k ρ μ => k.bk ρ μ
def wCont : WS := fun k ρ μ => k.ct ρ μ
theorem us_break : PS X (.Break pos) (upS X.K C W wBreak) := PS.imp ps_break fun B σ H ⟨L, F, ρ, μ, k, rl, q, u⟩ => u.bk ρ μ q F σ H (Sub.refl F) rl
theorem us_cont : PS X (.Continue pos) (upS X.K C W wCont) := PS.imp ps_continue fun B σ H ⟨L, F, ρ, μ, k, rl, q, u⟩ => u.ct ρ μ q F σ H (Sub.refl F) rl
def wDrop (we : WE) : WS := fun k ρ μ => we ρ μ (fun _ μ1 => k.nx ρ μ1) (k.ex ρ)
theorem us_expr (h : PE X e (upE X.K C W we)) (hs : swapsWith e none pos.line X.env = pure false) : PS X (.Expr e pos) (upS X.K C W (wDrop we)) := PS.imp (ps_expr h hs) fun B σ H ⟨L, F, ρ, μ, k, rl, q, u⟩ =>
  ⟨L, F, ρ, μ, _, _, rl, q, fun d μ' h F' H' v s w r => u.nx ρ μ' h F' σ H' s (rl.to s w), u.x rl⟩
/-- at a return: what changed may be given up, what is handed out may be told as a tree -/
def Frz (μ : Mu) (d : D) (μ' : Mu) (d' : D) : Prop := ∀ (K : PySem.W.Frag) (C : CT) (L F H : Hp) (v : V), Wd K C L F μ H → Rep K C F d v → ∃ F', Sub F F' ∧ Wd K C L F' μ' H ∧ Rep K C F' d' v
theorem Frz.refl (μ : Mu) (d : D) : Frz μ d μ d := fun K C L F H v w r => ⟨F, Sub.refl F, w, r⟩
theorem Frz.trans {μ μ1 μ2 : Mu} {d d1 d2 : D} (h : Frz μ d μ1 d1) (h2 : Frz μ1 d1 μ2 d2) : Frz μ d μ2 d2 := fun K C L F H v w r => by
  obtain ⟨F1, s1, w1, r1⟩ := h K C L F H v w r
  obtain ⟨F2, s2, w2, r2⟩ := h2 K C L F1 H v w1 r1
  exact ⟨F2, s1.trans s2, w2, r2⟩
def Less (μ' μ : Mu) : Prop := ∀ a m, μ' a = some m → μ a = some m
theorem Wd.less {K : PySem.W.Frag} {L F H : Hp} {μ μ' : Mu} (w : Wd K C L F μ H) (h : Less μ' μ) : Wd K C L F μ' H := ⟨w.sub, w.lk, fun a m e => w.mu a m (h a m e), fun a m e => w.ml a m (h a m e), w.dj⟩
theorem Frz.less {μ μ' : Mu} {d : D} (h : Less μ' μ) : Frz μ d μ' d := fun K C L F H v w r => ⟨F, Sub.refl F, w.less h, r⟩
theorem Frz.lst {μ μ' : Mu} {a : Addr} {ds : List D} (h : μ a = some (.lst ds)) (hl : ∀ b m, μ' b = some m → μ b = some m ∧ b ≠ a) : Frz μ (.raw a) μ' (.lst ds) := fun K C L F H v w r => by
  obtain ⟨xs, h1, h2⟩ := w.raw h
  have hF := (w.mu a _ h).1
  have hL := w.ml a _ h
  have s : Sub F (upd F a (.lst xs)) := Sub.new hF
  refine ⟨upd F a (.lst xs), s, ⟨fun b o e => ?_, w.lk, fun b m e => ?_, fun b m e => w.ml b m (hl b m e).1, fun b o e => ?_⟩, ?_⟩
  · by_cases hb : b = a
    · subst hb; rw [upd_same] at e; cases e; exact h1
    · rw [upd_ne hb] at e; exact w.sub b o e
  · obtain ⟨e1, hb⟩ := hl b m e
    obtain ⟨m1, m2⟩ := w.mu b m e1
    exact ⟨by rw [upd_ne hb]; exact m1, m2.mono s rfl⟩
  · have hb : b ≠ a := fun z => by subst z; rw [hL] at e; cases e
    rw [upd_ne hb]; exact w.dj b o e
  · rw [r.raw]
    exact .ofLst upd_same (h2.mono s)
theorem Frz.dct {μ μ' : Mu} {a : Addr} {ds : List (Key × D)} (h : μ a = some (.dct ds)) (hl : ∀ b m, μ' b = some m → μ b = some m ∧ b ≠ a) : Frz μ (.raw a) μ' (.dct ds) := fun K C L F H v w r => by
  obtain ⟨xs, h1, h2⟩ := w.rawK h
  have hF := (w.mu a _ h).1
  have hL := w.ml a _ h
  have s : Sub F (upd F a (.dK xs)) := Sub.new hF
  refine ⟨upd F a (.dK xs), s, ⟨fun b o e => ?_, w.lk, fun b m e => ?_, fun b m e => w.ml b m (hl b m e).1, fun b o e => ?_⟩, ?_⟩
  · by_cases hb : b = a
    · subst hb; rw [upd_same] at e; cases e; exact h1
    · rw [upd_ne hb] at e; exact w.sub b o e
  · obtain ⟨e1, hb⟩ := hl b m e
    obtain ⟨m1, m2⟩ := w.mu b m e1
    exact ⟨by rw [upd_ne hb]; exact m1, m2.mono s rfl⟩
  · have hb : b ≠ a := fun z => by subst z; rw [hL] at e; cases e
    rw [upd_ne hb]; exact w.dj b o e
  · rw [r.raw]
    exact .ofDct upd_same (h2.mono s)
def wRet (we : WE) : WS := fun k ρ μ => we ρ μ (fun d μ1 => ∃ d' μ', Frz μ1 d μ' d' ∧ k.rt d' μ') (k.ex ρ)
theorem us_ret (h : PE X e (upE X.K C W we)) : PS X (.Return (some e) pos) (upS X.K C W (wRet we)) := PS.imp (ps_ret h) fun B σ H ⟨L, F, ρ, μ, k, rl, q, u⟩ =>
  ⟨L, F, ρ, μ, _, _, rl, q, fun d μ' h F' H' v s w r => by
    obtain ⟨d', μ'', fz, q⟩ := h
    obtain ⟨F2, s2, w2, r2⟩ := fz X.K C L F' H' v w r
    exact u.rt d' μ'' q F2 H' v (s.trans s2) w2 r2, u.x rl⟩
def wRetN : WS := fun k ρ μ => ∃ μ', Less μ' μ ∧ k.rt .non μ'
theorem us_retN : PS X (.Return none pos) (upS X.K C W wRetN) := PS.imp ps_retN fun B σ H ⟨L, F, ρ, μ, k, rl, ⟨μ', hl, q⟩, u⟩ => u.rt .non μ' q F H _ (Sub.refl F) (rl.wd.less hl) .ofNon
def wIfS (t : WT) (w w2 : WS) : WS := fun k ρ μ => t ρ μ (fun b μ1 => (b = true → w k ρ μ1) ∧ (b = false → w2 k ρ μ1)) (k.ex ρ)
theorem us_if {b1 b2 : List Stmt} (hc : PT X c (upT X.K C W wt)) (ha : PSs X b1 (upS X.K C W w)) (hb : PSs X b2 (upS X.K C W w2)) : PS X (.If c b1 b2 pos) (upS X.K C W (wIfS wt w w2)) := PS.imp (ps_if hc ha hb) fun B σ H ⟨L, F, ρ, μ, k, rl, q, u⟩ => by
  refine ⟨L, F, ρ, μ, _, _, rl, q, fun b μ' h F' H' s w => ?_, u.x rl⟩
  cases b with
  | true => exact ⟨L, F', ρ, μ', k, rl.to s w, h.1 rfl, u.mono s⟩
  | false => exact ⟨L, F', ρ, μ', k, rl.to s w, h.2 rfl, u.mono s⟩
/-- name = e -/
def wAsg (i : Nat) (we : WE) : WS := fun k ρ μ => we ρ μ (fun d μ1 => k.nx (ρ.set i (some d)) μ1) (k.ex ρ)
theorem us_asg0 (h : PS X st (tAsg (upE X.K C W we) (gName i))) : PS X st (upS X.K C W (wAsg i we)) := PS.imp h fun B σ H ⟨L, F, ρ, μ, k, rl, q, u⟩ =>
  ⟨L, F, ρ, μ, _, _, rl, q, fun d μ' h F' H' v s w r => u.nx _ μ' h F' _ H' s ((rl.to s w).set i r), u.x rl⟩
/-- targets = e -/
def wAsgG (g : WG) (we : WE) : WS := fun k ρ μ => we ρ μ (fun d μ1 => g d ρ μ1 fun ρ1 => k.nx ρ1 μ1) (k.ex ρ)
theorem us_asgG {g : WG} (h : PS X st (tAsg (upE X.K C W we) (upG X.K C g))) : PS X st (upS X.K C W (wAsgG g we)) := PS.imp h fun B σ H ⟨L, F, ρ, μ, k, rl, q, u⟩ =>
  ⟨L, F, ρ, μ, _, _, rl, q, fun d μ' h F' H' v s w r => ⟨L, F', ρ, μ', d, _, rl.to s w, r, h, fun ρ' q σ' rl' => u.nx ρ' μ' q F' σ' H' s rl'⟩, u.x rl⟩
/-- o[i] = e -/
abbrev GSet := D → D → D → Mu → (Mu → Prop) → Prop
def SetD (X : Cx) (C : CT) (g : GSet) : Prop := ∃ t, PSet X t ∧ ∀ L F μ H x y z v u w Q0 (Q : Hp → Prop), Wd X.K C L F μ H → Rep X.K C F x v → Rep X.K C F y u → Rep X.K C F z w → g x y z μ Q0 → (∀ μ', Q0 μ' → ∀ F' H', Sub F F' → Wd X.K C L F' μ' H' → Q H') → t v u w H Q
def wSet (g : GSet) (wo wi we : WE) : WS := fun k ρ μ => we ρ μ (fun z μ1 => wo ρ μ1 (fun x μ2 => wi ρ μ2 (fun y μ3 => g x y z μ3 fun μ4 => k.nx ρ μ4) (k.ex ρ)) (k.ex ρ)) (k.ex ρ)
theorem us_set0 {g : GSet} {t : TSet} (hg : ∀ L F μ H x y z v u w Q0 (Q : Hp → Prop), Wd X.K C L F μ H → Rep X.K C F x v → Rep X.K C F y u → Rep X.K C F z w → g x y z μ Q0 → (∀ μ', Q0 μ' → ∀ F' H', Sub F F' → Wd X.K C L F' μ' H' → Q H') → t v u w H Q)
    (h : PS X st (tAsg (upE X.K C W we) (L2.gSub (upE X.K C W wa) (upE X.K C W wb) t))) : PS X st (upS X.K C W (wSet g wa wb we)) := PS.imp h fun B σ H ⟨L, F, ρ, μ, k, rl, q, u⟩ => by
  refine ⟨L, F, ρ, μ, _, _, rl, q, fun z μ1 q1 F1 H1 v1 s1 w1 r1 => ?_, u.x rl⟩
  refine ⟨L, F1, ρ, μ1, _, _, rl.to s1 w1, q1, fun x μ2 q2 F2 H2 v2 s2 w2 r2 => ?_, (u.x rl).mono s1⟩
  refine ⟨L, F2, ρ, μ2, _, _, rl.to (s1.trans s2) w2, q2, fun y μ3 q3 F3 H3 v3 s3 w3 r3 => ?_, (u.x rl).mono (s1.trans s2)⟩
  exact hg L F3 μ3 H3 x y z v2 v3 v1 _ _ w3 (r2.mono s3) r3 ((r1.mono s2).mono s3) q3 fun μ4 q4 F4 H4 s4 w4 => u.nx ρ μ4 q4 F4 σ H4 (((s1.trans s2).trans s3).trans s4) (rl.to (((s1.trans s2).trans s3).trans s4) w4)
theorem PSet.or {t t' : TSet} (h : PSet X t) (h' : PSet X t') : PSet X (fun o i v H Q => t o i v H Q ∨ t' o i v H Q) := by
  intro pins s σ H o i v ov iv u Q I ro ri rv q
  rcases q with q | q
  · exact h pins s σ H o i v ov iv u Q I ro ri rv q
  · exact h' pins s σ H o i v ov iv u Q I ro ri rv q
theorem set_dict (hu : X.A.units + 1 < cLine) : PSet X (fun o i v H Q => ∃ a H4, o = .ref a ∧ DPut H a i v H4 ∧ Q H4) := by
  intro pins s σ H o i v ov iv u Q I ro ri rv h
  obtain ⟨a, H4, rfl, g, q⟩ := h
  obtain rfl : ov = Value.ref a := ro
  exact d_setItem hu I g ri rv fun s4 I4 => ⟨H4, I4, q⟩
def gSet : GSet := fun x y z μ Q =>
  (∃ a ds i j, x = .raw a ∧ μ a = some (.lst ds) ∧ y = .int i ∧ ixN ds.length i = some j ∧ Q (mset μ a (.lst (ds.set j z)))) ∨
  (∃ a ks k, x = .raw a ∧ μ a = some (.dct ks) ∧ keyOf y = some k ∧ ks.length < sizeLine ∧ Q (mset μ a (.dct (kput ks k z))))
theorem setd (hu : X.A.units + 1 < cLine) : SetD X C gSet := ⟨_, PSet.or set_list (set_dict hu), fun L F μ H x y z v u w Q0 Q wd rx ry rz q uq => by
  rcases q with ⟨a, ds, i, j, rfl, hm, rfl, hj, q⟩ | ⟨a, ks, k, rfl, hm, hk, hl, q⟩
  · obtain ⟨xs, h1, h2⟩ := wd.raw hm
    refine .inl ⟨a, xs, i, j, rx.raw, ry.int, h1, by rw [h2.len]; exact hj, ?_⟩
    exact uq _ q F _ (Sub.refl F) (wd.put hm ⟨_, upd_same, h2.set j rz⟩)
  · obtain ⟨xs, h1, h2⟩ := wd.rawK hm
    cases keyOf_kV ry hk
    refine .inr ⟨a, _, rx.raw, DPut.k h1 (by rw [h2.len]; exact hl), ?_⟩
    exact uq _ q F _ (Sub.refl F) (wd.put hm ⟨_, upd_same, h2.put rz⟩)⟩
/-! ### loops -/
def forLoop (gd : Mu → Prop) (g : WG) (w : WS) (k : KS) : List D → Env → Mu → Prop
  | [], ρ, μ => gd μ ∧ k.nx ρ μ
  | d :: ds, ρ, μ => gd μ ∧ g d ρ μ fun ρ1 => w { k with nx := forLoop gd g w k ds, ct := forLoop gd g w k ds, bk := k.nx } ρ1 μ
def wFor (wi : WI) (g : WG) (w : WS) : WS := fun k ρ μ => wi ρ μ (fun ds gd μ1 => forLoop gd g w k ds ρ μ1) (k.ex ρ)
theorem us_for {iter : Expr} {body : List Stmt} {wi : WI} {g : WG} (hp : PassesOwn (model X.prog X.w) X.A X.env X.xe) (hc : X.calm = true) (hi : PI X tg iter (upI X.K C W wi)) (hg : PG X tg (upG X.K C g)) (hb : PSs X body (upS X.K C W w))
    (hs : ∀ x, foldedSetIterable iter X.env x = pure x) : PS X (.For tg iter body [] pos) (upS X.K C W (wFor wi g w)) := PS.imp (ps_for hp hc hi hg hb hs) fun B σ H ⟨L, F, ρ, μ, k, rl, q, u⟩ => by
  refine ⟨L, F, ρ, μ, _, _, rl, q, fun ds gd μ1 q1 F1 H1 J s1 w1 src => ?_, u.x rl⟩
  refine ⟨fun i m σ H => m = ds.length - i ∧ i ≤ ds.length ∧ ∃ F2 ρ2 μ2, Sub F1 F2 ∧ Rl X.K C L F2 ρ2 μ2 σ H ∧ forLoop gd g w k (ds.drop i) ρ2 μ2,
    ⟨ds.length, rfl, Nat.zero_le _, F1, ρ, μ1, Sub.refl F1, rl.to s1 w1, q1⟩, ?_⟩
  rintro i m σ2 H2 ⟨rfl, hi, F2, ρ2, μ2, s2, r2, lp⟩
  by_cases hlt : i < ds.length
  · rw [List.drop_eq_getElem_cons hlt] at lp
    obtain ⟨hgd, lp⟩ := lp
    refine .inr ⟨src.go i _ F2 μ2 H2 hlt s2 r2.wd hgd, fun σ' H' => ∃ F2 ρ2 μ2, Sub F1 F2 ∧ Rl X.K C L F2 ρ2 μ2 σ' H' ∧ forLoop gd g w k (ds.drop (i + 1)) ρ2 μ2,
      fun σ' H' hn => ⟨ds.length - (i + 1), by omega, rfl, hlt, hn⟩, fun x H3 hy => ?_⟩
    obtain ⟨G, sG, wG, rG⟩ := src.yld i _ F2 μ2 H2 x H3 _ s2 r2.wd hgd (List.getElem?_eq_getElem hlt) hy
    refine ⟨L, G, ρ2, μ2, _, _, r2.to sG wG, rG, lp, fun ρ3 q3 σ3 rl3 => ?_⟩
    refine ⟨L, G, ρ3, μ2, _, rl3, q3, ?_⟩
    have ug := u.mono ((s1.trans s2).trans sG)
    exact ⟨fun ρ' μ' h F' σ' H' s r => ⟨F', ρ', μ', (s2.trans sG).trans s, r, h⟩, ug.nx, fun ρ' μ' h F' σ' H' s r => ⟨F', ρ', μ', (s2.trans sG).trans s, r, h⟩, ug.rt, ug.ex⟩
  · have e : i = ds.length := by omega
    subst e
    rw [List.drop_length] at lp
    obtain ⟨hgd, lp⟩ := lp
    exact .inl ⟨src.stop _ F2 μ2 H2 s2 r2.wd hgd, u.nx ρ2 μ2 lp F2 σ2 H2 (s1.trans s2) r2⟩
def wWhile (t : WT) (w : WS) : WS := fun k ρ μ => ∃ I : Nat → Env → Mu → Prop, (∃ m, I m ρ μ) ∧ ∀ m ρ μ, I m ρ μ →
  t ρ μ (fun b μ1 => (b = true → w { k with nx := fun ρ' μ' => ∃ m', m' < m ∧ I m' ρ' μ', ct := fun ρ' μ' => ∃ m', m' < m ∧ I m' ρ' μ', bk := k.nx } ρ μ1) ∧ (b = false → k.nx ρ μ1)) (k.ex ρ)
theorem us_while {body : List Stmt} (hp : PassesOwn (model X.prog X.w) X.A X.env X.xe) (hc : PT X c (upT X.K C W wt)) (hb : PSs X body (upS X.K C W w)) : PS X (.While c body [] pos) (upS X.K C W (wWhile wt w)) := PS.imp (ps_while hp hc hb) fun B σ H ⟨L, F, ρ, μ, k, rl, ⟨I, ⟨m0, i0⟩, hI⟩, u⟩ => by
  refine ⟨fun m σ H => ∃ F2 ρ2 μ2, Sub F F2 ∧ Rl X.K C L F2 ρ2 μ2 σ H ∧ I m ρ2 μ2, ⟨m0, F, ρ, μ, Sub.refl F, rl, i0⟩, ?_⟩
  rintro m σ2 H2 ⟨F2, ρ2, μ2, s2, r2, i2⟩
  refine ⟨L, F2, ρ2, μ2, _, _, r2, hI m ρ2 μ2 i2, fun b μ3 q3 F3 H3 s3 w3 => ?_, (u.mono s2).x r2⟩
  cases b with
  | true =>
    refine ⟨fun σ' H' => ∃ m', m' < m ∧ ∃ F2 ρ2 μ2, Sub F F2 ∧ Rl X.K C L F2 ρ2 μ2 σ' H' ∧ I m' ρ2 μ2, fun σ' H' h => h, ?_⟩
    have ug := u.mono (s2.trans s3)
    refine ⟨L, F3, ρ2, μ3, _, r2.to s3 w3, q3.1 rfl, ?_⟩
    exact ⟨fun ρ' μ' ⟨m', hm, h⟩ F' σ' H' s r => ⟨m', hm, F', ρ', μ', (s2.trans s3).trans s, r, h⟩, ug.nx, fun ρ' μ' ⟨m', hm, h⟩ F' σ' H' s r => ⟨m', hm, F', ρ', μ', (s2.trans s3).trans s, r, h⟩, ug.rt, ug.ex⟩
  | false => exact u.nx ρ2 μ3 (q3.2 rfl) F3 σ2 H3 (s2.trans s3) (r2.to s3 w3)
end
end T2

set_option maxRecDepth 100000
set_option maxHeartbeats 4000000
namespace T2
open PySem PySem.Spec PyProof.Rows L2
/-- an exception class of the text -/
structure XCls (K : PySem.W.Frag) (mg : Str → Option Value) (c : Str) (ca : Addr) (fs : List Str) : Prop where
  g : mg c = some (.ref ca)
  o : OexC K ca
  f : XfC K ca
  e : ExcC K ca
  no : ∀ f ∈ fs, PySem.W.findIn K (.ref ca) f = some none
/-- .. whose __init__ keeps its arguments -/
structure XMk (P : Program) (w : World) (K : PySem.W.Frag) (mg : Str → Option Value) (base : Heap) (C : CT) (k : Nat) (c : Str) (fs : List Str) : Prop where
  ex : ∃ ca fI fd ps sp, C.xcls c = some ca ∧ XCls K mg c ca fs ∧ PySem.W.findIn K (.ref ca) "__init__" = some (some (.ref fI)) ∧ PySem.W.typeIn K (.ref fI) = some (.type "function") ∧
    FnOk P w K mg base (L2.CX P w) k fI fd ps sp ∧ Binds K fd ps [] ∧ ∀ (vs : List V) (H : Hp) (Q : VK) (a : Addr), vs.length = fs.length → H a = some (exo a ca none) →
      (∀ dx, H dx = none → dx ≠ a → Q .non (upd (upd H dx (exd dx (fs.zip vs).reverse)) a (exo a ca (some dx)))) → sp (.ref a :: vs) H Q E0
theorem XMk.mono {P : Program} {w : World} {K : PySem.W.Frag} {mg : Str → Option Value} {base : Heap} {C : CT} {j k : Nat} {c : Str} {fs : List Str} (h : XMk P w K mg base C j c fs) (hk : j ≤ k) : XMk P w K mg base C k c fs := by
  obtain ⟨ca, fI, fd, ps, sp, h1, h2, h3, h4, h5, h6⟩ := h.ex
  exact ⟨ca, fI, fd, ps, sp, h1, h2, h3, h4, h5.mono hk, h6⟩
section
variable {P : Program} {w : World} {K : PySem.W.Frag} {mg : Str → Option Value} {base : Heap}
theorem upd_swap {H : Hp} {a b : Addr} {o u : HO} (h : a ≠ b) : upd (upd H a o) b u = upd (upd H b u) a o := by
  funext c
  unfold upd
  by_cases h1 : c = a
  · subst h1
    rw [if_neg h, if_pos rfl, if_pos rfl]
  · by_cases h2 : c = b
    · subst h2
      rw [if_pos rfl, if_neg h1, if_pos rfl]
    · rw [if_neg h2, if_neg h1, if_neg h1, if_neg h2]
/-- __init__ with one argument that is kept -/
theorem xmk1 {C : CT} {c f p : Str} {ca fI : Addr} {fd : FuncData} {qual : Str} {params : Arguments} {body : List Stmt} {scope : Scope} {dvs : List V} {kws : List (Str × V)} (hc : C.xcls c = some ca) (x : XCls K mg c ca [f])
    (i1 : PySem.W.findIn K (.ref ca) "__init__" = some (some (.ref fI))) (i2 : PySem.W.typeIn K (.ref fI) = some (.type "function")) (F : FunD K "__init__" qual params body scope dvs kws fI fd) (S : FnScope ["self", p] ["self", p] scope)
    (hb : ∃ q1 q2 q3 q4, body = [.Assign [.Attribute (.Name "self" q1) f q2] (.Name p q3) q4]) (hbi : Binds K fd ["self", p] []) (hp1 : (p == ("__debug__" : Str)) = false) (hp2 : (p == ("__classdict__" : Str)) = false) : XMk P w K mg base C 1 c [f] := by
  obtain ⟨q1, q2, q3, q4, rfl⟩ := hb
  have vis : ∀ y ∈ (["self", p] : List Str), Vis scope y := fun y hy => (S.par y hy).elim .inl fun h => .inr (.inl h)
  refine ⟨ca, fI, fd, ["self", p], fun vs H Q E => ∃ a v, vs = [.ref a, v] ∧ H a = some (exo a ca none) ∧ ∀ dx, H dx = none → dx ≠ a → Q .non (upd (upd H dx (exd dx [(f, v)])) a (exo a ca (some dx))), hc, x, i1, i2, ?_, hbi, ?_⟩
  · refine F.ok S (fun vs H Q E h => ?_) fun cdv A outer s H vs Q E hr h => ?_
    · obtain ⟨a, v, rfl, _⟩ := h
      rfl
    · obtain ⟨a, v, rfl, ha, q⟩ := h
      refine ⟨_, pss_one (ps_ost (pe_var (i := 0) rfl (vis _ List.mem_cons_self)) (pe_var (i := 1) rfl (vis _ (List.mem_cons_of_mem _ List.mem_cons_self)) hp1 hp2)), ?_⟩
      exact ⟨v, rfl, .ref a, rfl, a, ca, rfl, x.o, x.no f List.mem_cons_self, .inl ⟨ha, fun dx hn hne => q dx hn hne⟩⟩
  · intro vs H Q a hl ha q
    match vs, hl with
    | [v], _ => exact ⟨a, v, rfl, ha, q⟩
/-- .. with two -/
theorem xmk2 {C : CT} {c f f2 p p2 : Str} {ca fI : Addr} {fd : FuncData} {qual : Str} {params : Arguments} {body : List Stmt} {scope : Scope} {dvs : List V} {kws : List (Str × V)} (hc : C.xcls c = some ca) (x : XCls K mg c ca [f, f2])
    (i1 : PySem.W.findIn K (.ref ca) "__init__" = some (some (.ref fI))) (i2 : PySem.W.typeIn K (.ref fI) = some (.type "function")) (F : FunD K "__init__" qual params body scope dvs kws fI fd) (S : FnScope ["self", p, p2] ["self", p, p2] scope)
    (hb : ∃ q1 q2 q3 q4 r1 r2 r3 r4, body = [.Assign [.Attribute (.Name "self" q1) f q2] (.Name p q3) q4, .Assign [.Attribute (.Name "self" r1) f2 r2] (.Name p2 r3) r4]) (hbi : Binds K fd ["self", p, p2] [])
    (hp1 : (p == ("__debug__" : Str)) = false) (hp2 : (p == ("__classdict__" : Str)) = false) (hp3 : (p2 == ("__debug__" : Str)) = false) (hp4 : (p2 == ("__classdict__" : Str)) = false) : XMk P w K mg base C 1 c [f, f2] := by
  obtain ⟨q1, q2, q3, q4, r1, r2, r3, r4, rfl⟩ := hb
  have vis : ∀ y ∈ (["self", p, p2] : List Str), Vis scope y := fun y hy => (S.par y hy).elim .inl fun h => .inr (.inl h)
  refine ⟨ca, fI, fd, ["self", p, p2], fun vs H Q E => ∃ a v v2, vs = [.ref a, v, v2] ∧ H a = some (exo a ca none) ∧ ∀ dx, H dx = none → dx ≠ a → Q .non (upd (upd H dx (exd dx [(f2, v2), (f, v)])) a (exo a ca (some dx))), hc, x, i1, i2, ?_, hbi, ?_⟩
  · refine F.ok S (fun vs H Q E h => ?_) fun cdv A outer s H vs Q E hr h => ?_
    · obtain ⟨a, v, v2, rfl, _⟩ := h
      rfl
    · obtain ⟨a, v, v2, rfl, ha, q⟩ := h
      refine ⟨_, pss_cons (ps_ost (pe_var (i := 0) rfl (vis _ (by simp))) (pe_var (i := 1) rfl (vis _ (by simp)) hp1 hp2)) (pss_one (ps_ost (pe_var (i := 0) rfl (vis _ (by simp))) (pe_var (i := 2) rfl (vis _ (by simp)) hp3 hp4))), ?_⟩
      refine ⟨v, rfl, .ref a, rfl, a, ca, rfl, x.o, x.no f (by simp), .inl ⟨ha, fun dx hn hne => ?_⟩⟩
      refine ⟨v2, rfl, .ref a, rfl, a, ca, rfl, x.o, x.no f2 (by simp), .inr ⟨dx, [(f, v)], upd_same, ?_, by show 1 ≤ 900; decide, ?_⟩⟩
      · rw [upd_ne hne, upd_same]
      · have e : upd (upd (upd H dx (exd dx [(f, v)])) a (exo a ca (some dx))) dx (exd dx [(f2, v2), (f, v)]) = upd (upd H dx (exd dx [(f2, v2), (f, v)])) a (exo a ca (some dx)) := by
          rw [upd_swap hne.symm, upd_upd]
        show Q V.non (upd (upd (upd H dx (exd dx [(f, v)])) a (exo a ca (some dx))) dx (exd dx [(f2, v2), (f, v)]))
        rw [e]
        exact q dx hn hne
  · intro vs H Q a hl ha q
    match vs, hl with
    | [v, v2], _ => exact ⟨a, v, v2, rfl, ha, q⟩
end
section
variable {X : Cx} {C : CT} {W : WX} {tg a b c e o : Expr} {es : List Expr} {wa wb wc wo we : WE} {was wks : WA} {wt : WT} {p pos apos cpos p2 pos' : Pos} {x n : Str} {st : Stmt} {rest sts : List Stmt} {w w2 : WS} {i k : Nat} {fs : List Str}
theorem RepF.append {K : PySem.W.Frag} {F : Hp} : ∀ {ds es : FE} {xs ys : List (Str × V)}, RepF K C F ds xs → RepF K C F es ys → RepF K C F (ds ++ es) (xs ++ ys)
  | [], _, _, _, h, t => by unfold RepF at h; subst h; exact t
  | (k, d) :: ds, _, _, _, h, t => by
    unfold RepF at h
    obtain ⟨x, r, e', h1, h2⟩ := h
    subst e'
    have := h2.append t
    rw [List.cons_append, List.cons_append]
    unfold RepF
    exact ⟨_, _, rfl, h1, this⟩
theorem RepF.nil {K : PySem.W.Frag} {F : Hp} : RepF K C F [] [] := by unfold RepF; rfl
theorem RepF.cons {K : PySem.W.Frag} {F : Hp} {k : Str} {d : D} {v : V} {ds : FE} {xs : List (Str × V)} (h : Rep K C F d v) (t : RepF K C F ds xs) : RepF K C F ((k, d) :: ds) ((k, v) :: xs) := by
  unfold RepF; exact ⟨v, xs, rfl, h, t⟩
theorem RepF.rev {K : PySem.W.Frag} {F : Hp} : ∀ {ds : FE} {xs : List (Str × V)}, RepF K C F ds xs → RepF K C F ds.reverse xs.reverse
  | [], _, h => by unfold RepF at h; subst h; exact .nil
  | (k, d) :: ds, _, h => by
    unfold RepF at h
    obtain ⟨x, r, e', h1, h2⟩ := h
    subst e'
    rw [List.reverse_cons, List.reverse_cons]
    exact h2.rev.append (.cons h1 .nil)
theorem RepF.zip {K : PySem.W.Frag} {F : Hp} : ∀ {fs : List Str} {ds : List D} {xs : List V}, RepL K C F ds xs → RepF K C F (fs.zip ds) (fs.zip xs)
  | [], _, _, _ => by rw [List.zip_nil_left, List.zip_nil_left]; exact .nil
  | f :: fs, [], _, h => by unfold RepL at h; subst h; exact .nil
  | f :: fs, d :: ds, _, h => by
    unfold RepL at h
    obtain ⟨x, r, e', h1, h2⟩ := h
    subst e'
    exact .cons h1 (RepF.zip h2)
theorem RepF.lookup {K : PySem.W.Frag} {F : Hp} {f : Str} : ∀ {ds : FE} {xs : List (Str × V)} {d : D}, RepF K C F ds xs → ds.lookup f = some d → ∃ v, xs.lookup f = some v ∧ Rep K C F d v
  | [], _, d, _, e => by cases e
  | (k, d') :: ds, _, d, h, e => by
    unfold RepF at h
    obtain ⟨x, r, e', h1, h2⟩ := h
    subst e'
    rw [List.lookup_cons] at e ⊢
    cases q : f == k with
    | true =>
      rw [q] at e
      cases e
      exact ⟨x, rfl, h1⟩
    | false =>
      rw [q] at e
      exact h2.lookup e
/-- raise C(..) -/
def wRaise (c : Str) (fs : List Str) (was : WA) : WS := fun k ρ μ => was ρ μ (fun ds μ1 => ds.length = fs.length ∧ k.ex ρ c (fs.zip ds).reverse μ1) (k.ex ρ)
theorem us_raise (M : XMk X.prog X.w X.K X.mg X.base C k x fs) (hfs : fs.length ≤ 1000 ∧ fs ≠ []) (hr : Room (k + 1) X.A) (hc : X.calm = true) (tk : Takes X W) (hg : Gl X x) (ha : PA X (e :: es) (upA X.K C W was)) (hdb : (x == ("__debug__" : Str)) = false)
    (he : starEach (e :: es) X.env = (false, eval e X.env) :: starEach es X.env) (hpl : (backTo pos (starEach es X.env)).any (·.1) = false) :
    PS X (.Raise (some (.Call (.Name x p) (e :: es) [] pos)) none pos') (upS X.K C W (wRaise x fs was)) := by
  obtain ⟨ca, fI, fd, ps, sp, h1, hx, h3, h4, h5, h6, h7⟩ := M.ex
  refine PS.imp (ps_raise hc tk (pmk_oex hx.o h3 h4 h5 hr h6 .nil passL hg hx.g ha hdb he hpl)) fun B σ H ⟨L, F, ρ, μ, k, rl, q, u⟩ => ?_
  refine ⟨L, F, ρ, μ, _, _, rl, q, fun ds μ1 q1 F1 H1 vs s1 w1 r1 => ?_, u.x rl⟩
  obtain ⟨hl, q1⟩ := q1
  refine ⟨by rw [r1.len, hl]; exact hfs.1, fun a hn => ?_⟩
  rw [List.append_nil]
  refine h7 vs _ _ a (by rw [r1.len, hl]) upd_same fun dx hd hne => ?_
  have hd1 : H1 dx = none := by rw [upd_ne hne] at hd; exact hd
  refine ⟨rfl, dx, (fs.zip vs).reverse, upd_same, by rw [upd_ne hne, upd_same], hd1, ?_⟩
  have eH : upd (del (upd (upd (upd H1 a (exo a ca none)) dx (exd dx (fs.zip vs).reverse)) a (exo a ca (some dx))) a) dx (.xd (fs.zip vs).reverse) = upd H1 dx (.xd (fs.zip vs).reverse) := by
    funext b
    unfold upd del
    by_cases hb : b = dx
    · rw [if_pos hb, if_pos hb]
    · rw [if_neg hb, if_neg hb]
      by_cases hba : b = a
      · rw [if_pos hba, hba, hn]
      · rw [if_neg hba]
        show (if b = a then some (exo a ca (some dx)) else if b = dx then some (exd dx (fs.zip vs).reverse) else if b = a then some (exo a ca none) else H1 b) = H1 b
        rw [if_neg hba, if_neg hb, if_neg hba]
  rw [eH]
  have sF : Sub F1 (upd F1 dx (.xd (fs.zip vs).reverse)) := Sub.new (w1.fresh hd1).2
  exact u.ex x _ ρ μ1 q1 (upd F1 dx (.xd (fs.zip vs).reverse)) σ _ _ _ (s1.trans sF) (rl.to (s1.trans sF) (w1.frz hd1)) ⟨ca, h1, rfl, .inr ⟨dx, _, rfl, upd_same, ((RepF.zip r1).rev).mono sF⟩⟩

/-! ### an exception that is caught -/
/-- the names' slots are forgotten -/
theorem Rl.unset {K : PySem.W.Frag} {L F H : Hp} {ρ : Env} {μ : Mu} {σ : St} (r : Rl K C L F ρ μ σ H) (i : Nat) : Rl K C L F (ρ.set i none) μ (σ.set i none) H :=
  ⟨r.wd, by rw [List.length_set, List.length_set]; exact r.len, fun j d' e => by
    by_cases hj : j = i
    · subst hj
      by_cases hl : j < ρ.length
      · rw [List.getElem?_set_self hl] at e; cases e
      · rw [List.getElem?_eq_none (by rw [List.length_set]; omega)] at e; cases e
    · rw [List.getElem?_set_ne (Ne.symm hj)] at e ⊢
      exact r.env j d' e⟩
/-- e.f of the exception (a, ca, dx) that the suite holds -/
def wXf (a ca : Addr) (dx : Option Addr) (f : Str) (we : WE) : WE := fun ρ μ Q E => we ρ μ (fun d μ1 => ∃ c fs v, d = .exc a ca dx c fs ∧ fs.lookup f = some v ∧ Q v μ1) E
theorem Rep.exc {K : PySem.W.Frag} {F : Hp} {a ca : Addr} {dd : Option Addr} {c : Str} {fs : FE} {v : V} (h : Rep K C F (.exc a ca dd c fs) v) : v = .ref a ∧ C.xcls c = some ca ∧ ((fs = [] ∧ dd = none) ∨ ∃ dx xs, dd = some dx ∧ F dx = some (.xd xs) ∧ RepF K C F fs xs) := by unfold Rep at h; exact h
theorem Rep.ofExc {K : PySem.W.Frag} {F : Hp} {a ca : Addr} {dd : Option Addr} {c : Str} {fs : FE} (h1 : C.xcls c = some ca) (h2 : (fs = [] ∧ dd = none) ∨ ∃ dx xs, dd = some dx ∧ F dx = some (.xd xs) ∧ RepF K C F fs xs) : Rep K C F (.exc a ca dd c fs) (.ref a) := by unfold Rep; exact ⟨rfl, h1, h2⟩
theorem up_xf {a0 ca : Addr} {oe : Obj} {dx : Option Addr} {pn : List (Addr × Obj)} {f : Str} (T : XfC X.K ca) (hno : PySem.W.findIn X.K (.ref ca) f = some none) (hz : Zc (.ref ca) dx oe) (hf : ∃ vs, oe.data = .fields vs)
    (he : PE (X.suite a0 ((a0, oe) :: pn)) e (upE X.K C W we)) (hb : attributeBase e f X.env (eval e X.env) = eval e X.env) : PE (X.suite a0 ((a0, oe) :: pn)) (.Attribute e f pos) (upE X.K C W (wXf a0 ca dx f we)) :=
  PE.imp (pe_xf T hno hz hf he hb) fun σ H Q ⟨L, F, ρ, μ, Q0, E0, rl, q, uq, ux⟩ => by
    refine ⟨L, F, ρ, μ, _, E0, rl, q, fun d1 μ1 q1 F1 H1 v1 s1 w1 r1 => ?_, ux⟩
    obtain ⟨c, fs, v, rfl, hv, q⟩ := q1
    obtain ⟨e1, e2, e3⟩ := r1.exc
    rcases e3 with ⟨rfl, _⟩ | ⟨dd, xs, e4, e5, e6⟩
    · cases hv
    · obtain ⟨u, hu, ru⟩ := e6.lookup hv
      exact ⟨e1, rfl, dd, xs, u, e4, w1.sub _ _ e5, hu, uq _ _ q F1 H1 _ s1 w1 ru⟩
/-- isinstance(e, C) of it -/
def wXi (a ca : Addr) (dx : Option Addr) (is : Str → Bool) (we : WE) : WE := fun ρ μ Q E => we ρ μ (fun d μ1 => ∃ c fs, d = .exc a ca dx c fs ∧ Q (.bl (is c)) μ1) E
theorem call_isX {X : Cx} {a D : Addr} {oe : Obj} {dx : Option Addr} {cv : V} {cu : Value} {b : Bool} (hpn : (a, oe) ∈ X.pn) (C : ExcC X.K D) (hz : Zc (.ref D) dx oe) (hf : ∃ vs, oe.data = .fields vs) (hcv : ∀ u, RelV cv u → u = cu) (hb : PySem.W.kitOne X.K (.ref D) cu = some b) :
    CallR X (.builtin "isinstance") (fun xs H Q => xs = [.ref a, cv] ∧ (∀ dd, dx = some dd → ∃ fs, H dd = some (.xd fs)) ∧ Q (.bl b) H) := by
  intro pins s σ H xs us Q I r h
  obtain ⟨rfl, hd, q⟩ := h
  obtain ⟨u1, u2, rfl, r1, r2⟩ := vals2 r
  obtain rfl : u1 = Value.ref a := r1
  have e2 := hcv _ r2
  subst e2
  obtain ⟨hget, _⟩ := I.pin (a, oe) (List.mem_append.mpr (.inl hpn))
  obtain ⟨vs, hv⟩ := hf
  have hcl : (PySem.W.clsIn X.K D).isSome = true := by
    have h := C.hd
    unfold PySem.W.hasDictIn at h
    cases e : PySem.W.clsIn X.K D with
    | none => rw [e] at h; cases h
    | some z => rfl
  cases dx with
  | none =>
    have J : PySem.W.InstAt s.heap a oe D none := ⟨hget, hz.1, by unfold PySem.W.notCls; rw [hv] <;> rfl, by rw [hz.2]; trivial⟩
    exact PySem.W.kia_one (PySem.W.kitx_exc hcl C.hg C.hk C.hs C.ha C.hn C.ht C.hm) I.kIn J hb (fun z => nomatch z) fun tk => ⟨.bl b, H, I.kept (t' := tk) fun _ _ z => z, rfl, q⟩
  | some dd =>
    obtain ⟨fs, hfs⟩ := hd dd rfl
    obtain ⟨mA, hns, hr⟩ : ObjOk X.prog X.w H s.heap dd (.xd fs) := I.hok dd _ hfs
    obtain ⟨od, ho, hl⟩ := lookIn_ns hns
    have J : PySem.W.InstAt s.heap a oe D (some od) := ⟨hget, hz.1, by unfold PySem.W.notCls; rw [hv] <;> rfl, by rw [hz.2]; exact ho⟩
    exact PySem.W.kia_one (PySem.W.kitx_exc hcl C.hg C.hk C.hs C.ha C.hn C.ht C.hm) I.kIn J hb (fun z => nomatch z) fun tk => ⟨.bl b, H, I.kept (t' := tk) fun _ _ z => z, rfl, q⟩
theorem up_xi {a0 ca : Addr} {oe : Obj} {dx : Option Addr} {cv : V} {cu : Value} {is : Str → Bool} {tv : Str} {p3 : Pos} (hpn : (a0, oe) ∈ X.pn) (T : ExcC X.K ca) (hz : Zc (.ref ca) dx oe) (hf : ∃ vs, oe.data = .fields vs) (hcv : ∀ u, RelV cv u → u = cu)
    (hi : ∀ c, C.xcls c = some ca → PySem.W.kitOne X.K (.ref ca) cu = some (is c)) (hg : Gl X "isinstance") (hm : X.mg "isinstance" = none) (ha : PE X a (upE X.K C W wa)) (ht : PE X (.Name tv p3) (tC cv))
    (he : starEach [a, .Name tv p3] X.env = (false, eval a X.env) :: starEach [.Name tv p3] X.env) :
    PE X (.Call (.Name "isinstance" p) [a, .Name tv p3] [] pos) (upE X.K C W (wXi a0 ca dx is wa)) := by
  constructor
  intro pins s σ H Q I h
  cases hk : PySem.W.kitOne X.K (.ref ca) cu with
  | none =>
    have hno : ∀ c, C.xcls c ≠ some ca := fun c e => by rw [hi c e] at hk; cases hk
    have hP : PE X (.Call (.Name "isinstance" p) [a, .Name tv p3] [] pos) (tCB (fun _ _ _ => False) (tCons (upE X.K C W wa) (tCons (tC cv) tNil))) :=
      pe_callB (id := "isinstance") (fun _ _ _ _ _ _ _ _ _ z => z.elim) hg hm (by decide +kernel) (pa_cons ha (pa_cons ht pa_nil) he) (by decide) (by decide) he rfl
    refine hP.run pins s σ H Q I ?_
    obtain ⟨L, F, ρ, μ, Q0, E0, rl, q, uq, ux⟩ := h
    refine ⟨L, F, ρ, μ, _, E0, rl, q, fun d1 μ1 q1 F1 H1 v1 s1 w1 r1 => ?_, ux⟩
    obtain ⟨c, fs, rfl, q⟩ := q1
    exact hno c r1.exc.2.1
  | some b =>
    have hP := pe_callB (pos := pos) (p := p) (call_isX hpn T hz hf hcv hk) hg hm (by decide +kernel) (pa_cons ha (pa_cons ht pa_nil) he) (by decide) (by decide) he rfl
    refine hP.run pins s σ H Q I ?_
    obtain ⟨L, F, ρ, μ, Q0, E0, rl, q, uq, ux⟩ := h
    refine ⟨L, F, ρ, μ, _, E0, rl, q, fun d1 μ1 q1 F1 H1 v1 s1 w1 r1 => ?_, ux⟩
    obtain ⟨c, fs, rfl, q⟩ := q1
    obtain ⟨e1, e2, e3⟩ := r1.exc
    subst e1
    refine ⟨rfl, fun dd hd => ?_, ?_⟩
    · rcases e3 with ⟨_, rfl⟩ | ⟨dd', xs, e4, e5, _⟩
      · cases hd
      · rw [e4] at hd
        cases hd
        exact ⟨xs, w1.sub _ _ e5⟩
    · have := hi c e2
      rw [hk] at this
      cases this
      exact uq _ _ q F1 H1 _ s1 w1 .ofBl
/-- try: w except c as (slot i): ws -/
def wTry (is : Str → Bool) (i : Nat) (w : WS) (ws : Addr → Addr → Option Addr → WS) : WS := fun k ρ μ => w { k with ex := fun ρ' c fs μ' =>
  (is c = true → ∀ a ca dx, ws a ca dx { nx := fun ρ2 μ2 => k.nx (ρ2.set i none) μ2, rt := k.rt, bk := fun ρ2 μ2 => k.bk (ρ2.set i none) μ2, ct := fun ρ2 μ2 => k.ct (ρ2.set i none) μ2, ex := fun _ => wNever } (ρ'.set i (some (.exc a ca dx c fs))) μ') ∧
  (is c = false → k.ex ρ' c fs μ') } ρ μ
theorem us_try {body suite : List Stmt} {b0 : Stmt} {np : Pos} {cu : Value} {is : Str → Bool} {ws : Addr → Addr → Option Addr → WS} (hs : X.stack = X.env :: X.outer) (hf : X.env.frame = some X.env.locals) (hN : X.N.Nodup) (hi : X.N[i]? = some n) (hln : X.env.kindOf n = some .local)
    (hc : Names X x cu) (tk : Takes X W) (his : ∀ c ca, C.xcls c = some ca → PySem.W.exmOne X.K (.ref ca) cu = some (is c))
    (hb : ∀ (W' : WX) (pn : List (Addr × Obj)) (xe : Value → Shared → Prop), Takes (X.tr pn xe) W' → PassesOwn (model X.prog X.w) X.A X.env xe → PSs (X.tr pn xe) body (upS X.K C W' w))
    (hsu : ∀ (a : Addr) (oe : Obj) (ca : Addr) (dx : Option Addr) (pn : List (Addr × Obj)), (∃ c, C.xcls c = some ca ∧ is c = true) → Zc (.ref ca) dx oe → (∃ vs, oe.data = .fields vs) → PSs (X.suite a ((a, oe) :: pn)) (b0 :: suite) (upS X.K C WNo (ws a ca dx))) :
    PS X (.Try body [.ExceptHandler (some (.Name x np)) (some n) (b0 :: suite) pos'] [] [] pos) (upS X.K C W (wTry is i w ws)) := by
  refine PS.imp (ps_try_as (tb := fun W' => upS X.K C W' w) (ts := fun a cls dx B σ H => ∃ ca, cls = .ref ca ∧ (∃ c, C.xcls c = some ca ∧ is c = true) ∧ upS X.K C WNo (ws a ca dx) B σ H) hs hf hN hi hln hc tk hb fun a oe cls dx pn hz hd => ?_) fun B σ H ⟨L, F, ρ, μ, k, rl, q, u⟩ => ?_
  · constructor
    intro pins s σ H B I h
    obtain ⟨ca, rfl, hx, h⟩ := h
    exact (hsu a oe ca dx pn hx hz hd).run pins s σ H B I h
  · refine ⟨L, F, ρ, μ, _, rl, q, u.nx, u.bk, u.ct, u.rt, fun c fs ρ' μ' h F' σ' H' cls dx s r x => ?_⟩
    obtain ⟨ca, h1, rfl, hx⟩ := x
    refine ⟨is c, his c ca h1, fun e a ha => ?_, fun e => ?_⟩
    · have hr : Rep X.K C F' (.exc a ca dx c fs) (.ref a) := .ofExc h1 (by
        rcases hx with hx | ⟨d, xs, h2, h3, h4⟩
        · exact .inl hx
        · exact .inr ⟨d, xs, h2, h3, h4⟩)
      refine ⟨ca, rfl, ⟨c, h1, e⟩, L, F', _, μ', _, r.set i hr, h.1 e a ca dx, ?_⟩
      have ug := u.mono s
      exact ⟨fun ρ2 μ2 q F2 σ2 H2 s2 r2 => ug.nx _ μ2 q F2 _ H2 s2 (r2.unset i), fun ρ2 μ2 q F2 σ2 H2 s2 r2 => ug.bk _ μ2 q F2 _ H2 s2 (r2.unset i), fun ρ2 μ2 q F2 σ2 H2 s2 r2 => ug.ct _ μ2 q F2 _ H2 s2 (r2.unset i), ug.rt, fun _ _ _ _ z => z.elim⟩
    · exact u.ex c fs ρ' μ' (h.2 e) F' σ' H' _ dx s r ⟨ca, h1, rfl, hx⟩
end
end T2

set_option maxRecDepth 100000
set_option maxHeartbeats 4000000
namespace T2
open PySem PySem.Spec PyProof.Rows L2
/-! ### several except clauses, each with its name -/
abbrev Cl := Value × Nat × (Addr → Value → Option Addr → TS)
def wAsM (K : PySem.W.Frag) (Wout : WX) (D : Ends) : List Cl → WX
  | [] => Wout
  | (c, i, ts) :: r => wAs K c i ts (wAsM K Wout D r) D
inductive HdsAs (X : Cx) : List ExceptHandler → List Cl → Prop
  | nil : HdsAs X [] []
  | cons {x n : Str} {c : Value} {i : Nat} {ts : Addr → Value → Option Addr → TS} {b0 : Stmt} {suite : List Stmt} {np p : Pos} {hds : List ExceptHandler} {l : List Cl} (hi : X.N[i]? = some n) (hln : X.env.kindOf n = some .local) (hc : Names X x c)
      (hsu : ∀ (a : Addr) (oe : Obj) (cls : Value) (d : Option Addr) (pn : List (Addr × Obj)), Zc cls d oe → (∃ vs, oe.data = .fields vs) → PSs (X.suite a ((a, oe) :: pn)) (b0 :: suite) (ts a cls d)) (r : HdsAs X hds l) :
      HdsAs X (.ExceptHandler (some (.Name x np)) (some n) (b0 :: suite) p :: hds) ((c, i, ts) :: l)
section
variable {X : Cx} {body : List Stmt} {h0 : ExceptHandler} {hds : List ExceptHandler} {l : List Cl} {pos : Pos} {tb : WX → TS} {Wout : WX}
theorem ps_tryM (hs : X.stack = X.env :: X.outer) (hf : X.env.frame = some X.env.locals) (hN : X.N.Nodup) (tk : Takes X Wout)
    (hb : ∀ (W : WX) (pn : List (Addr × Obj)) (xe : Value → Shared → Prop), Takes (X.tr pn xe) W → PassesOwn (model X.prog X.w) X.A X.env xe → PSs (X.tr pn xe) body (tb W))
    (hh : HdsAs X (h0 :: hds) l) : PS X (.Try body (h0 :: hds) [] [] pos) (fun D σ H => tb (wAsM X.K Wout D l) D σ H) := by
  constructor
  intro pins s σ H D I h
  have ok := I.ok
  have fr : X.A.frames = some (X.env :: X.outer) := by rw [ok.frames, hs]
  apply wpAny_Try_except
  refine wpAny_mono ((hb (wAsM X.K Wout D l) (X.pn ++ pins) (fun e t1 => wpAny (model X.prog X.w) X.A (noteFrame e X.env) (fun _ t2 => wpAny (model X.prog X.w) X.A (setFlight e none) (fun _ t3 => wpAny (model X.prog X.w) X.A (handleBy e X.env (h0 :: hds)) (SP X pins D) X.xe t3) X.xe t2) X.xe t1)
    (fun u t xx => ?_) PassesOwn.looking).run [] s σ H D (I.toTry _) h) (fun f t hsp => ?_) fun _ _ z => z
  · obtain ⟨a, B, sI, pins', ρ, G, cls, d, rfl, J0, nb, up, sky, na, os, ag, w⟩ := xx
    have J : Inv X pins ρ G sI := J0.ofTry ok
    refine Sky.land Zc.steady fr hf (show Sky B (X.env :: X.outer) a (Zc cls d) X.env.locals t.heap from hs ▸ sky) fun h3 fl up3 => ?_
    have J3 : Inv X pins ρ G { t with heap := h3 } := J.landed nb fl.1 (up.trans up3) os ag
    obtain ⟨o3, v3, e3, z3, d3⟩ := fl.there
    have nfr : a ∉ frs (X.env :: X.outer) := fun hm => by
      obtain ⟨_, o', e', q⟩ := fl.2.2.1.mem hm
      rw [e3] at e'
      cases e'
      exact q _ d3
    have nL : a ≠ X.env.locals := fun z => nfr (List.mem_filterMap.mpr ⟨X.env, List.mem_cons_self, by rw [hf, z]⟩)
    have nF : a ∉ X.fs := fun hm => by
      obtain ⟨e, he, q⟩ := List.mem_filterMap.mp hm
      exact nfr (List.mem_filterMap.mpr ⟨e, List.mem_cons_of_mem _ he, q⟩)
    have S3 := J3.suite e3 d3 na nL nF
    suffices go : ∀ {hs' : List ExceptHandler} {l' : List Cl}, HdsAs X hs' l' → wAsM X.K Wout D l' cls d ρ G → wpAny (model X.prog X.w) X.A (handleBy (.ref a) X.env hs') (SP X pins D) X.xe { t with heap := h3 } from go hh w
    intro hs' l' hk
    induction hk with
    | nil =>
      intro w
      apply wpAny_handleBy_nil
      obtain ⟨_, _, _, oe, vs, T, _, _, he, _, hd, h1, _⟩ := id fl
      unfold PySem.passOn
      refine wpAny_bind (wpAny_field he hd h1 ?_)
      have ne : ¬ ((Value.ref T == Value.none) = true) := by simp
      rw [if_neg ne]
      have last : wpAny (model X.prog X.w) X.A (setFlight (.ref a) X.env.frame) (fun _ t4 => wpAny (model X.prog X.w) X.A (throw (.ref a) : Sem Flow) (SP X pins D) X.xe t4) X.xe { t with heap := h3 } := by
        rw [hf]
        refine HandSPX.setFlight_upZ fl fun h4 hh4 up4 => wpAny_throw (tk _ _ ⟨a, B, sI, pins, ρ, G, cls, d, rfl, J, nb, (up.trans up3).trans up4, .inr (.inr (hs ▸ hh4)), na, os, ag, w⟩)
      first | exact wpAny_bind (wpAny_pure (wpAny_bind last)) | exact wpAny_bind last
    | @cons x n c i ts b0 suite np p hds2 l2 hi hln hc hsu r ih =>
      intro w
      obtain ⟨b, hb1, yes, no⟩ := w
      refine wpAny_handleBy_cons (codeAny_handlers_test ?_) (fun q => by cases q)
      have LM := PySem.W.exm_one (M := model X.prog X.w) J3.kIn (fun A Q E s' k q => wpAny_typeOf_ref (k _ _ e3) (by rw [z3.1]; exact q) : PySem.W.Looks (model X.prog X.w) h3 (typeOf (.ref a)) cls) hb1
      have named : ∀ {Q : Value → Shared → Prop} {E : Value → Shared → Prop}, Q c { t with heap := h3 } → wpAny (model X.prog X.w) (X.A.mark (some (.ref a))) (eval (.Name x np) X.env) Q E { t with heap := h3 } := fun {Q E} q => by
        obtain ⟨hg, hdb, hm | ⟨hm, hv, hn⟩⟩ := hc
        · exact ld_glob (X := X.suite a ((a, o3) :: (X.pn ++ pins))) S3 hg hm q hdb
        · exact ld_blt (X := X.suite a ((a, o3) :: (X.pn ++ pins))) S3 hg hm hv q hn hdb
      refine named (LM.here ?_)
      cases b with
      | false =>
        show wpAny _ X.A (handleBy (.ref a) X.env hds2) _ _ _
        exact ih (no rfl)
      | true =>
        apply codeAny_handlers_suite_as
        refine HandSPX.lands_againZ fl fun h4 fl4 up4 => ?_
        have J4 : Inv X pins ρ G { t with heap := h4 } := J.landed nb fl4.1 ((up.trans up3).trans up4) os ag
        obtain ⟨o4, v4, e4, z4, d4⟩ := fl4.there
        refine store_ok (X := X.suite a ((a, o4) :: (X.pn ++ pins))) (v := .ref a) (J4.suite e4 d4 na nL nF) hN hi (.inl hln) rfl (fun s5 S5 => ?_) (.inr hln)
        refine wpAny_mono ((hsu a o4 cls d (X.pn ++ pins) z4 ⟨_, d4⟩).run [] s5 _ G _ S5 (yes rfl a na)) (fun f s6 hsp => ?_) fun _ _ z => z.elim
        have goes : ∀ {σ6 : St} {H6 : Hp} {Q : Shared → Prop}, Inv (X.suite a ((a, o4) :: (X.pn ++ pins))) [] σ6 H6 s6 → (∀ s7, Inv X pins (σ6.set i none) H6 s7 → Q s7) →
            wpAny (model X.prog X.w) X.A (do bindName X.env n .none; unbindBehindTheSuite X.env n p) (fun _ s7 => Q s7) X.xe s6 := fun S6 hq => gone_ok (S6.unsuite ok) hN hi hln hq
        cases f with
        | next =>
          obtain ⟨_, _, S6, q6⟩ := hsp
          exact goes S6 fun s7 J7 => ⟨_, _, J7, q6⟩
        | brk =>
          obtain ⟨_, _, S6, q6⟩ := hsp
          exact goes S6 fun s7 J7 => ⟨_, _, J7, q6⟩
        | cont =>
          obtain ⟨_, _, S6, q6⟩ := hsp
          exact goes S6 fun s7 J7 => ⟨_, _, J7, q6⟩
        | ret u =>
          obtain ⟨_, _, _, S6, r6, q6⟩ := hsp
          exact goes S6 fun s7 J7 => ⟨_, _, _, J7, r6, q6⟩
  · cases f with
    | next =>
      obtain ⟨_, _, J, q⟩ := hsp
      exact wpAny_execs_nil ⟨_, _, J.ofTry ok, q⟩
    | brk =>
      obtain ⟨_, _, J, q⟩ := hsp
      exact ⟨_, _, J.ofTry ok, q⟩
    | cont =>
      obtain ⟨_, _, J, q⟩ := hsp
      exact ⟨_, _, J.ofTry ok, q⟩
    | ret u =>
      obtain ⟨_, _, _, J, r, q⟩ := hsp
      exact ⟨_, _, _, J.ofTry ok, r, q⟩
end
/-! .. over trees -/
abbrev ClD := (Str → Bool) × Nat × (Addr → Addr → Option Addr → WS)
def exM (k : KS) : List ClD → Env → PX
  | [], ρ => k.ex ρ
  | (is, i, ws) :: r, ρ => fun c fs μ => (is c = true → ∀ a ca dx, ws a ca dx { nx := fun ρ2 μ2 => k.nx (ρ2.set i none) μ2, rt := k.rt, bk := fun ρ2 μ2 => k.bk (ρ2.set i none) μ2, ct := fun ρ2 μ2 => k.ct (ρ2.set i none) μ2, ex := fun _ => wNever } (ρ.set i (some (.exc a ca dx c fs))) μ) ∧
    (is c = false → exM k r ρ c fs μ)
def wTryM (cl : List ClD) (w : WS) : WS := fun k ρ μ => w { k with ex := exM k cl } ρ μ
inductive HdD (X : Cx) (C : CT) : List ExceptHandler → List ClD → Prop
  | nil : HdD X C [] []
  | cons {x n : Str} {cu : Value} {i : Nat} {is : Str → Bool} {ws : Addr → Addr → Option Addr → WS} {b0 : Stmt} {suite : List Stmt} {np p : Pos} {hds : List ExceptHandler} {l : List ClD} (hi : X.N[i]? = some n) (hln : X.env.kindOf n = some .local) (hc : Names X x cu)
      (his : ∀ c ca, C.xcls c = some ca → PySem.W.exmOne X.K (.ref ca) cu = some (is c))
      (hsu : ∀ (a : Addr) (oe : Obj) (ca : Addr) (dx : Option Addr) (pn : List (Addr × Obj)), (∃ c, C.xcls c = some ca ∧ is c = true) → Zc (.ref ca) dx oe → (∃ vs, oe.data = .fields vs) → PSs (X.suite a ((a, oe) :: pn)) (b0 :: suite) (upS X.K C WNo (ws a ca dx)))
      (r : HdD X C hds l) : HdD X C (.ExceptHandler (some (.Name x np)) (some n) (b0 :: suite) p :: hds) ((is, i, ws) :: l)
/-- the clauses below, their readings above -/
theorem HdD.as {X : Cx} {C : CT} {W : WX} {hds : List ExceptHandler} {cl : List ClD} (h : HdD X C hds cl) : ∃ l : List Cl, HdsAs X hds l ∧ ∀ (L F : Hp) (D : Ends) (k : KS), UpK X.K C W L F k D → ∀ c fs ρ μ, exM k cl ρ c fs μ → ∀ F' σ H cls dx, Sub F F' → Rl X.K C L F' ρ μ σ H → XRep X.K C F' H c fs cls dx → wAsM X.K W D l cls dx σ H := by
  induction h with
  | nil => exact ⟨[], .nil, fun L F D k u c fs ρ μ h F' σ H cls dx s r x => u.ex c fs ρ μ h F' σ H cls dx s r x⟩
  | @cons x n cu i is ws b0 suite np p hds2 l2 hi hln hc his hsu r ih =>
    obtain ⟨l, h1, h2⟩ := ih
    refine ⟨(cu, i, fun a cls dx B σ H => ∃ ca, cls = .ref ca ∧ (∃ c, C.xcls c = some ca ∧ is c = true) ∧ upS X.K C WNo (ws a ca dx) B σ H) :: l, .cons hi hln hc (fun a oe cls dx pn hz hd => ?_) h1, fun L F D k u c fs ρ μ h F' σ H cls dx s r x => ?_⟩
    · constructor
      intro pins s σ H B I h
      obtain ⟨ca, rfl, hx, h⟩ := h
      exact (hsu a oe ca dx pn hx hz hd).run pins s σ H B I h
    · have x0 := x
      obtain ⟨ca, g1, rfl, hx⟩ := x
      refine ⟨is c, his c ca g1, fun e a ha => ?_, fun e => h2 L F D k u c fs ρ μ (h.2 e) F' σ H _ dx s r x0⟩
      have hr : Rep X.K C F' (.exc a ca dx c fs) (.ref a) := .ofExc g1 (by
        rcases hx with hx | ⟨d, xs, g2, g3, g4⟩
        · exact .inl hx
        · exact .inr ⟨d, xs, g2, g3, g4⟩)
      refine ⟨ca, rfl, ⟨c, g1, e⟩, L, F', _, μ, _, r.set i hr, h.1 e a ca dx, ?_⟩
      have ug := u.mono s
      exact ⟨fun ρ2 μ2 q F2 σ2 H2 s2 r2 => ug.nx _ μ2 q F2 _ H2 s2 (r2.unset i), fun ρ2 μ2 q F2 σ2 H2 s2 r2 => ug.bk _ μ2 q F2 _ H2 s2 (r2.unset i), fun ρ2 μ2 q F2 σ2 H2 s2 r2 => ug.ct _ μ2 q F2 _ H2 s2 (r2.unset i), ug.rt, fun _ _ _ _ z => z.elim⟩
theorem us_tryM {X : Cx} {C : CT} {W : WX} {w : WS} {body : List Stmt} {h0 : ExceptHandler} {hds : List ExceptHandler} {cl : List ClD} {pos : Pos} (hs : X.stack = X.env :: X.outer) (hf : X.env.frame = some X.env.locals) (hN : X.N.Nodup) (tk : Takes X W)
    (hb : ∀ (W' : WX) (pn : List (Addr × Obj)) (xe : Value → Shared → Prop), Takes (X.tr pn xe) W' → PassesOwn (model X.prog X.w) X.A X.env xe → PSs (X.tr pn xe) body (upS X.K C W' w))
    (hh : HdD X C (h0 :: hds) cl) : PS X (.Try body (h0 :: hds) [] [] pos) (upS X.K C W (wTryM cl w)) := by
  obtain ⟨l, h1, h2⟩ := hh.as (W := W)
  exact PS.imp (ps_tryM hs hf hN tk (tb := fun W' => upS X.K C W' w) hb h1) fun B σ H ⟨L, F, ρ, μ, k, rl, q, u⟩ =>
    ⟨L, F, ρ, μ, _, rl, q, u.nx, u.bk, u.ct, u.rt, fun c fs ρ' μ' h F' σ' H' cls dx s r x => h2 L F B k u c fs ρ' μ' h F' σ' H' cls dx s r x⟩
end T2

set_option maxRecDepth 100000
set_option maxHeartbeats 4000000
namespace T2
open PySem PySem.Spec PyProof.Rows L2
section
variable {X : Cx} {C : CT} {W : WX} {tg a b c e o : Expr} {es : List Expr} {wa wb wc wo we : WE} {was wks : WA} {wt : WT} {p pos apos cpos p2 pos' : Pos} {x n : Str}
/-! ### {k: v, ..} -/
def wPairs : List (WE × WE) → Env → Mu → (List (D × D) → Mu → Prop) → PX → Prop
  | [], _, μ, Q, _ => Q [] μ
  | (k, v) :: r, ρ, μ, Q, E => k ρ μ (fun x μ1 => v ρ μ1 (fun y μ2 => wPairs r ρ μ2 (fun ps μ3 => Q ((x, y) :: ps) μ3) E) E) E
def keysOf : List (D × D) → Option (List (Key × D))
  | [] => some []
  | (x, y) :: r => match keyOf x, keysOf r with
    | some k, some ks => some ((k, y) :: ks)
    | _, _ => none
def wDict (ps : List (WE × WE)) : WE := fun ρ μ Q E => wPairs ps ρ μ (fun xs μ1 => ∃ ks, keysOf xs = some ks ∧ ks.length ≤ 15 ∧ Q (.dct (kmerge [] ks)) μ1) E
def wDictM (ps : List (WE × WE)) : WE := fun ρ μ Q E => wPairs ps ρ μ (fun xs μ1 => ∃ ks, keysOf xs = some ks ∧ ks.length ≤ 15 ∧ ∀ a, μ1 a = none → Q (.raw a) (mset μ1 a (.dct (kmerge [] ks)))) E
def RepP (K : PySem.W.Frag) (C : CT) (F : Hp) : List (D × D) → List (V × V) → Prop := Paired fun p q => Rep K C F p.1 q.1 ∧ Rep K C F p.2 q.2
theorem RepP.mono {K : PySem.W.Frag} {F G : Hp} (s : Sub F G) {ds : List (D × D)} {vs : List (V × V)} (h : RepP K C F ds vs) : RepP K C G ds vs := Paired.mapP h fun _ _ h => ⟨h.1.mono s, h.2.mono s⟩
theorem RepP.keys {K : PySem.W.Frag} {F : Hp} : ∀ {ds : List (D × D)} {vs : List (V × V)} {ks : List (Key × D)}, RepP K C F ds vs → keysOf ds = some ks → ∃ kvs : List (Key × V), vs = kvs.map (fun kv => (kV kv.1, kv.2)) ∧ RepK K C F ks kvs
  | _, _, ks, .nil, e => by cases e; exact ⟨[], rfl, .nil⟩
  | _, _, ks, .cons (a := (x, y)) (b := (u, v)) h t, e => by
    unfold keysOf at e
    split at e
    · rename_i k ks' e1 e2
      cases e
      obtain ⟨kvs, rfl, r⟩ := RepP.keys t e2
      have := keyOf_kV h.1 e1
      dsimp only at this
      subst this
      exact ⟨(k, v) :: kvs, rfl, .cons h.2 r⟩
    · cases e
theorem up_pairs {W : WX} : ∀ (ps : List (WE × WE)) (σ : St) (L F : Hp) (ρ : Env) (μ : Mu) (H : Hp) (Q0 : List (D × D) → Mu → Prop) (E0 : PX) (Q : List (V × V) → Hp → Prop), Rl X.K C L F ρ μ σ H → wPairs ps ρ μ Q0 E0 →
    (∀ ds μ', Q0 ds μ' → ∀ F' H' vs, Sub F F' → Wd X.K C L F' μ' H' → RepP X.K C F' ds vs → Q vs H') → upX X.K C L F σ E0 W → tPairs (ps.map fun q => (upE X.K C W q.1, upE X.K C W q.2)) σ H Q
  | [], σ, L, F, ρ, μ, H, Q0, E0, Q, rl, q, uq, ux => uq [] μ q F H [] (Sub.refl F) rl.wd .nil
  | (k, v) :: r, σ, L, F, ρ, μ, H, Q0, E0, Q, rl, q, uq, ux => by
    refine ⟨L, F, ρ, μ, _, E0, rl, q, fun d1 μ1 q1 F1 H1 v1 s1 w1 r1 => ?_, ux⟩
    refine ⟨L, F1, ρ, μ1, _, E0, rl.to s1 w1, q1, fun d2 μ2 q2 F2 H2 v2 s2 w2 r2 => ?_, ux.mono s1⟩
    refine up_pairs r σ L F2 ρ μ2 H2 _ E0 _ (rl.to (s1.trans s2) w2) q2 (fun ds μ3 q3 F3 H3 vs s3 w3 r3 => ?_) (ux.mono (s1.trans s2))
    exact uq _ μ3 q3 F3 H3 _ ((s1.trans s2).trans s3) w3 (.cons ⟨(r1.mono s2).mono s3, r2.mono s3⟩ r3)
theorem RepL.len0 {α : Type} {xs : List α} (h : xs = []) : xs.length = 0 := by rw [h]; rfl
theorem up_disp0 {ps : List (WE × WE)} {w0 : WE} {keys : List (Option Expr)} {values : List Expr} {Qd : PQ → List (Key × D) → Mu → Prop} (h : PPs X pos keys values (ps.map fun q => (upE X.K C W q.1, upE X.K C W q.2)))
    (hall : keys.all (·.isSome) = true) (hl : keys.length = values.length) (h0 : keys ≠ []) (h15 : keys.length ≤ 15)
    (hw : ∀ ρ μ Q E, w0 ρ μ Q E → wPairs ps ρ μ (fun xs μ1 => ∃ ks, keysOf xs = some ks ∧ ks.length ≤ 15 ∧ Qd Q ks μ1) E)
    (fin : ∀ Q0 Q L F F' μ' H' p ks kvs, Qd Q0 ks μ' → upQ X.K C L F Q0 Q → Sub F F' → Wd X.K C (upd L p (.dK (mergeK [] kvs))) F' μ' H' → RepK X.K C F' (kmerge [] ks) (mergeK [] kvs) → L p = none → Q (.ref p) H') :
    PE X (.Dict keys values pos) (upE X.K C W w0) :=
  PE.imp (pe_disp h hall hl h0 h15) fun σ H Q ⟨L, F, ρ, μ, Q0, E0, rl, q, uq, ux⟩ => by
    intro p hp
    have hL := rl.wd.lNone hp
    refine up_pairs ps σ (upd L p (.dK [])) F ρ μ (upd H p (.dK [])) _ E0 _ (rl.to' (Sub.refl F) (rl.wd.lock hp)) (hw _ _ _ _ q) (fun ds μ1 q1 F1 H1 vs s1 w1 r1 => ?_) (fun c fs μ' h F' H' cls dx s w x => ?_)
    · obtain ⟨ks, hk, hlen, q1⟩ := q1
      obtain ⟨kvs, rfl, rk⟩ := r1.keys hk
      refine ⟨w1.lk p _ upd_same, kvs, rfl, by rw [rk.len]; exact hlen, ?_⟩
      exact fin Q0 Q L F F1 μ1 _ p ks kvs q1 uq s1 w1.relock (RepK.merge rk .nil) hL
    · refine ux c fs μ' h F' H' cls dx s ⟨w.sub, fun a o e => ?_, w.mu, fun a m e => ?_, fun a o e => ?_⟩ x
      · exact w.lk a o (by rw [upd_ne (fun z => by subst z; rw [hL] at e; cases e)]; exact e)
      · have := w.ml a m e
        by_cases ha : a = p
        · subst ha; exact hL
        · rw [upd_ne ha] at this; exact this
      · exact w.dj a o (by rw [upd_ne (fun z => by subst z; rw [hL] at e; cases e)]; exact e)
theorem up_dict {ps : List (WE × WE)} {keys : List (Option Expr)} {values : List Expr} (h : PPs X pos keys values (ps.map fun q => (upE X.K C W q.1, upE X.K C W q.2))) (hall : keys.all (·.isSome) = true) (hl : keys.length = values.length) (h0 : keys ≠ []) (h15 : keys.length ≤ 15) :
    PE X (.Dict keys values pos) (upE X.K C W (wDict ps)) :=
  up_disp0 (Qd := fun Q ks μ1 => Q (.dct (kmerge [] ks)) μ1) h hall hl h0 h15 (fun _ _ _ _ h => h) fun Q0 Q L F F' μ' H' p ks kvs q uq s w r hL => by
    have sF : Sub F' (upd F' p (.dK (mergeK [] kvs))) := Sub.new (w.dj p _ upd_same)
    exact uq _ _ q _ H' _ (s.trans sF) (w.unlockF hL) (.ofDct upd_same (r.mono sF))
theorem up_dictM {ps : List (WE × WE)} {keys : List (Option Expr)} {values : List Expr} (h : PPs X pos keys values (ps.map fun q => (upE X.K C W q.1, upE X.K C W q.2))) (hall : keys.all (·.isSome) = true) (hl : keys.length = values.length) (h0 : keys ≠ []) (h15 : keys.length ≤ 15) :
    PE X (.Dict keys values pos) (upE X.K C W (wDictM ps)) :=
  up_disp0 (Qd := fun Q ks μ1 => ∀ a, μ1 a = none → Q (.raw a) (mset μ1 a (.dct (kmerge [] ks)))) h hall hl h0 h15 (fun _ _ _ _ h => h) fun Q0 Q L F F' μ' H' p ks kvs q uq s w r hL =>
    uq _ _ (q p w.lockNone) F' H' _ s (w.unlockM hL ⟨_, w.lk p _ upd_same, r⟩) .ofRaw
def wDict0M : WE := fun _ μ Q _ => ∀ a, μ a = none → Q (.raw a) (mset μ a (.dct []))
theorem up_dict0M : PE X (.Dict [] [] pos) (upE X.K C W wDict0M) := PE.imp pe_dnewK fun σ H Q ⟨L, F, ρ, μ, Q0, E0, rl, q, uq, ux⟩ => fun p hp =>
  uq _ _ (q p (rl.wd.fresh hp).1) F _ _ (Sub.refl F) (rl.wd.new hp ⟨[], upd_same, .nil⟩) .ofRaw
def wDict0 : WE := fun _ μ Q _ => Q (.dct []) μ
theorem up_dict0 : PE X (.Dict [] [] pos) (upE X.K C W wDict0) := PE.imp pe_dnewK fun σ H Q ⟨L, F, ρ, μ, Q0, E0, rl, q, uq, ux⟩ => fun p hp =>
  uq _ _ q (upd F p (.dK [])) _ _ (Sub.new (rl.wd.fresh hp).2) (rl.wd.frz hp) (.ofDct upd_same .nil)
end

/-! ### what the syntax must be -/
def notStar : Expr → Bool
  | .Starred .. => false
  | _ => true
theorem star_cons {e : Expr} {es : List Expr} {env : PySem.Env} (h : notStar e = true) : starEach (e :: es) env = (false, eval e env) :: starEach es env := by
  cases e <;> first | rfl | cases h
theorem star_any {env : PySem.Env} {pos : Pos} : ∀ {es : List Expr}, es.all notStar = true → (backTo pos (starEach es env)).any (·.1) = false
  | [], _ => rfl
  | e :: es, h => by
    rw [List.all_cons, Bool.and_eq_true] at h
    rw [star_cons h.1]
    have := star_any (env := env) (pos := pos) h.2
    unfold backTo at this ⊢
    rw [List.map_cons, List.any_cons, this]
    rfl
theorem star_all {env : PySem.Env} {pos : Pos} : ∀ {es : List Expr}, es.all notStar = true → (backTo pos (starEach es env)).all (fun x => !x.1) = true
  | [], _ => rfl
  | e :: es, h => by
    rw [List.all_cons, Bool.and_eq_true] at h
    rw [star_cons h.1]
    have := star_all (env := env) (pos := pos) h.2
    unfold backTo at this ⊢
    rw [List.map_cons, List.all_cons, this]
    rfl
def plainIx : Expr → Bool
  | .Slice .. => false
  | _ => true
theorem plainIx_ok {b : Expr} (h : plainIx b = true) : PlainIx b := fun o i => by cases b <;> first | rfl | cases h
def plainT : Expr → Bool
  | .UnaryOp .Not _ _ => false
  | .BoolOp .. => false
  | .IfExp .. => false
  | .Compare .. => false
  | _ => true
theorem plainT_ok {e : Expr} {env : PySem.Env} (h : plainT e = true) : ∀ whole, isTrue e env whole = (do let v ← whole; standAt e.pos; holding [v] (truthy v)) := fun whole => by
  cases e with
  | UnaryOp op a p => cases op <;> first | rfl | cases h
  | _ => first | rfl | cases h
def plainBase : Expr → Bool
  | .Call .. => false
  | _ => true
theorem plainBase_ok {o : Expr} {f : Str} {env : PySem.Env} (h : plainBase o = true) : attributeBase o f env (eval o env) = eval o env := by
  cases o <;> first | rfl | cases h
def plainSet : Expr → Bool
  | .Set .. => false
  | _ => true
theorem plainSet_ok {o : Expr} {env : PySem.Env} (h : plainSet o = true) : ∀ x, foldedSetIterable o env x = pure x := fun x => by
  cases o <;> first | rfl | cases h
def plainSw : Expr → Bool
  | .ListComp .. => false
  | .SetComp .. => false
  | .DictComp .. => false
  | _ => true
theorem plainSw_ok {o : Expr} {t : Option Expr} {l : Nat} {env : PySem.Env} (h : plainSw o = true) : swapsWith o t l env = pure false := by
  cases o <;> first | rfl | cases h
/-- the names that no rule may meet -/
def okName (x : Str) : Bool := !(x == ("__debug__" : Str)) && !(x == ("__classdict__" : Str)) && !(x == ("__name__" : Str))
theorem okName_ok {x : Str} (h : okName x = true) : (x == ("__debug__" : Str)) = false ∧ (x == ("__classdict__" : Str)) = false ∧ x ≠ "__name__" := by
  unfold okName at h
  simp only [Bool.and_eq_true, Bool.not_eq_true'] at h
  refine ⟨h.1.1, h.1.2, fun e => ?_⟩
  rw [e] at h
  exact absurd h.2 (by decide)
def visB (sc : Scope) (x : Str) : Bool := match sc.names.lookup x with
  | some .local => true
  | some .cell => true
  | some .free => true
  | _ => false
theorem visB_ok {sc : Scope} {x : Str} (h : visB sc x = true) : Vis sc x := by
  unfold visB at h
  split at h
  · exact .inl (by assumption)
  · exact .inr (.inl (by assumption))
  · exact .inr (.inr (by assumption))
  · cases h
def locB (sc : Scope) (x : Str) : Bool := match sc.names.lookup x with
  | some .local => true
  | _ => false
theorem locB_ok {sc : Scope} {x : Str} (h : locB sc x = true) : sc.names.lookup x = some .local := by
  unfold locB at h
  split at h
  · assumption
  · cases h
def glB (sc : Scope) (x : Str) : Bool := match sc.names.lookup x with
  | some .globalImplicit => true
  | _ => false
theorem glB_ok {X : Cx} {sc : Scope} {x : Str} (hs : X.env.scope = sc) (h : glB sc x = true) : Gl X x := by
  unfold glB at h
  split at h
  · subst hs; assumption
  · cases h
end T2

set_option maxRecDepth 100000
set_option maxHeartbeats 4000000
namespace T2
open PySem PySem.Spec PyProof.Rows L2
/-! ### the translation: from the syntax to the readings -/
/-- one def of the text, as it is called: n values, the keywords ks; m: what it hands out may change -/
structure FunE where
  x : Str
  n : Nat
  ks : List Str
  m : Bool
  sp : SpD
/-- what is known of the text's own names -/
structure Gam where
  funs : List FunE
  consts : List (Str × D)
  raises : List (Str × List Str)
  subs : List (Str × (Str → Bool))
  flds : List Str
def biNames : List Str := ["len", "abs", "max", "min", "int", "list", "tuple", "all", "any", "range", "isinstance", "bool", "str", "dict", "sorted", "enumerate", "zip", "sum", "ord", "set", "iter", "reversed", "repr", "ValueError"]
structure SubOk (K : PySem.W.Frag) (mg : Str → Option Value) (C : CT) (x : Str) (is : Str → Bool) : Prop where
  ex : ∃ cv cu, ((mg x = some cu) ∨ (mg x = none ∧ bootBuiltins x = some cu)) ∧ RelV cv cu ∧ (∀ u, RelV cv u → u = cu) ∧
    ∀ c ca, C.xcls c = some ca → PySem.W.kitOne K (.ref ca) cu = some (is c) ∧ PySem.W.exmOne K (.ref ca) cu = some (is c)
structure GamOk (P : Program) (w : World) (K : PySem.W.Frag) (mg : Str → Option Value) (base : Heap) (C : CT) (k : Nat) (G : Gam) : Prop where
  fn : ∀ e ∈ G.funs, FnAt P w K mg base C k e.x e.n e.ks e.sp
  con : ∀ q ∈ G.consts, ∃ u v, mg q.1 = some u ∧ RelV v u ∧ ∀ F, Rep K C F q.2 v
  free : ∀ x ∈ biNames, mg x = none
  rs : ∀ q ∈ G.raises, ∃ j, j + 1 ≤ k ∧ XMk P w K mg base C j q.1 q.2
  sub : ∀ q ∈ G.subs, SubOk K mg C q.1 q.2
  xc : ∀ c ca, C.xcls c = some ca → XfC K ca ∧ ExcC K ca ∧ ∀ f ∈ G.flds, PySem.W.findIn K (.ref ca) f = some none
/-- where an expression stands; h: the exception that is handled -/
abbrev Hot := Option (Addr × Addr × Option Addr)
structure XO (C : CT) (k : Nat) (G : Gam) (N : List Str) (h : Hot) (sc : Scope) (X : Cx) (W : WX) : Prop where
  g : GamOk X.prog X.w X.K X.mg X.base C k G
  eN : X.N = N
  eS : X.env.scope = sc
  nd : X.N.Nodup
  un : X.A.units + 65 < cLine
  cool : h = none → X.calm = true ∧ Room k X.A
  hot : ∀ a ca dx, h = some (a, ca, dx) → ∃ (X0 : Cx) (pn : List (Addr × Obj)) (oe : Obj), X = X0.suite a ((a, oe) :: pn) ∧ Zc (.ref ca) dx oe ∧ (∃ vs, oe.data = .fields vs) ∧ XfC X.K ca ∧ ExcC X.K ca ∧ ∀ f ∈ G.flds, PySem.W.findIn X.K (.ref ca) f = some none
  tk : Takes X W
def gMul : G2 := fun x y μ Q => ∃ i j, x = .int i ∧ y = .int j ∧ CMulX i j ∧ Q (.int (i * j)) μ
theorem opd_mul {X : Cx} {C : CT} : OpD X C (binaryOp .Mult) gMul := opd_int op_mulX
def opG : Operator → Option G2
  | .Mult => some gMul
  | .Add => some gAdd
  | .Sub => some gSub
  | .Mod => some gMod
  | .FloorDiv => some gDiv
  | .Pow => some gPow
  | _ => none
theorem opG_ok {X : Cx} {C : CT} {op : Operator} {g : G2} (h : opG op = some g) : OpD X C (binaryOp op) g := by
  cases op <;> first | (cases h; done) | skip
  all_goals first
    | (cases h; exact opd_mul)
    | (cases h; exact opd_add)
    | (cases h; exact opd_sub)
    | (cases h; exact opd_mod)
    | (cases h; exact opd_div)
    | (cases h; exact opd_pow)
def cmpG : CmpOp → Option G2
  | .Eq => some gEq
  | .NotEq => some gNe
  | .Lt => some gLt
  | .LtE => some gLe
  | .Gt => some gGt
  | .GtE => some gGe
  | .Is => some gIs
  | .IsNot => some gIsNot
  | .In => some (gIn false)
  | .NotIn => some (gIn true)
theorem cmpG_ok {X : Cx} {C : CT} (hu : X.A.units + 1 < cLine) {op : CmpOp} {g : G2} (h : cmpG op = some g) : OpD X C (compareOp op) g := by
  cases op <;> cases h
  · exact opd_eq
  · exact opd_ne
  · exact opd_lt
  · exact opd_le
  · exact opd_gt
  · exact opd_ge
  · exact opd_is
  · exact opd_isnot
  · exact opd_in hu
  · exact opd_notin hu
def tyOf (x : Str) : Option Ty :=
  if x = "int" then some .int else if x = "bool" then some .bool else if x = "str" then some .str else if x = "list" then some .list else if x = "tuple" then some .tuple else if x = "dict" then some .dict else none
theorem tyOf_ok {x : Str} {t : Ty} (h : tyOf x = some t) : x ∈ biNames ∧ bootBuiltins x = some (.type t.s) := by
  unfold tyOf at h
  repeat' split at h
  all_goals first | (cases h; done) | skip
  all_goals (subst_vars; cases h; exact ⟨by decide, by decide +kernel⟩)
/-- built-in functions and types as they are called -/
inductive BK | fn (id : String) | ty (id : String)
def BK.v : BK → Value
  | .fn id => .builtin id
  | .ty id => .type id
def biCall (calm : Bool) (m : Bool) (x : Str) : Option (BK × GC) :=
  if x = "len" then some (.fn "len", gLen)
  else if x = "abs" then some (.fn "abs", gAbs)
  else if x = "int" then some (.ty "int", gInt)
  else if x = "list" then (if m = true then some (.ty "list", gListM) else some (.ty "list", gList))
  else if x = "tuple" then some (.ty "tuple", gTuple)
  else if calm = true then
    (if x = "max" then some (.fn "max", gMax)
    else if x = "min" then some (.fn "min", gMin)
    else if x = "all" then some (.fn "all", gAll)
    else if x = "any" then some (.fn "any", gAny)
    else none)
  else none
theorem biCall_ok {X : Cx} {C : CT} {calm m : Bool} {x : Str} {b : BK} {g : GC} (hc : calm = true → X.calm = true) (h : biCall calm m x = some (b, g)) : x ∈ biNames ∧ bootBuiltins x = some b.v ∧ CallD X C b.v g := by
  unfold biCall at h
  repeat' split at h
  all_goals first | (cases h; done) | skip
  all_goals subst_vars
  all_goals cases h
  · exact ⟨by decide, by decide +kernel, cad_len⟩
  · exact ⟨by decide, by decide +kernel, cad_abs⟩
  · exact ⟨by decide, by decide +kernel, cad_int⟩
  · exact ⟨by decide, by decide +kernel, cad_listM⟩
  · exact ⟨by decide, by decide +kernel, cad_list⟩
  · exact ⟨by decide, by decide +kernel, cad_tuple⟩
  · exact ⟨by decide, by decide +kernel, cad_max (hc rfl)⟩
  · exact ⟨by decide, by decide +kernel, cad_min (hc rfl)⟩
  · exact ⟨by decide, by decide +kernel, cad_all (hc rfl)⟩
  · exact ⟨by decide, by decide +kernel, cad_any (hc rfl)⟩
/-- methods of the built-in types -/
structure MtE where
  T : String
  id : String
  g : GM
def mtCall (x : Str) : Option MtE :=
  if x = "append" then some ⟨"list", "list.append", gAppend⟩
  else if x = "get" then some ⟨"dict", "dict.get", gGet⟩
  else none
theorem mtCall_ok {X : Cx} {C : CT} (hu : X.A.units + 1 < cLine) {x : Str} {m : MtE} (h : mtCall x = some m) : PlainAttrs m.T ∧ Slot m.T x m.id ∧ typeOf (.builtin m.id) = pure (.type "method_descriptor") ∧ MtD X C m.id m.g := by
  unfold mtCall at h
  repeat' split at h
  all_goals first | (cases h; done) | skip
  all_goals subst_vars
  all_goals cases h
  · exact ⟨PySem.F.plainAttrs_list, PySem.F.slot_list_append, PySem.F.type_list_append, mtd_append⟩
  · exact ⟨PySem.F.plainAttrs_dict, PySem.F.slot_dict_get, PySem.F.type_dict_get, mtd_get hu⟩
def constD : Const → Option D
  | .int i => some (.int i)
  | .str s => some (.str s)
  | .bool b => some (.bl b)
  | .none => some .non
  | _ => none
theorem up_const {X : Cx} {C : CT} {W : WX} {c : Const} {j : Nat} {pos : Pos} {d : D} (h : constD c = some d) : PE X (.Constant c j pos) (upE X.K C W (wC d)) := by
  cases c <;> cases h
  · exact up_c pe_non fun F => .ofNon
  · exact up_c pe_bl fun F => .ofBl
  · exact up_c pe_int fun F => .ofInt
  · exact up_c pe_str fun F => .ofStr
end T2

set_option maxRecDepth 100000
set_option maxHeartbeats 4000000
namespace T2
open PySem PySem.Spec PyProof.Rows L2
def slotOf (x : Str) : List Str → Option Nat
  | [] => none
  | y :: r => if y = x then some 0 else (slotOf x r).map (· + 1)
theorem slotOf_ok {x : Str} : ∀ {N : List Str} {i : Nat}, slotOf x N = some i → N[i]? = some x
  | [], i, h => by cases h
  | y :: r, i, h => by
    unfold slotOf at h
    split at h
    · rename_i e; cases h; rw [e]; rfl
    · cases q : slotOf x r with
      | none => rw [q] at h; cases h
      | some j =>
        rw [q] at h
        cases h
        have := slotOf_ok q
        exact this
def lookN {α : Type} (x : Str) : List (Str × α) → Option α
  | [] => none
  | (y, a) :: r => if y = x then some a else lookN x r
theorem lookN_ok {α : Type} {x : Str} {a : α} : ∀ {l : List (Str × α)}, lookN x l = some a → (x, a) ∈ l
  | [], h => by cases h
  | (y, b) :: r, h => by
    unfold lookN at h
    split at h
    · rename_i e; cases h; subst e; exact List.mem_cons_self
    · exact List.mem_cons_of_mem _ (lookN_ok h)
def lookF (x : Str) (n : Nat) (ks : List Str) (m : Bool) : List FunE → Option FunE
  | [] => none
  | e :: r => if e.x = x ∧ e.n = n ∧ e.ks = ks ∧ e.m = m then some e else lookF x n ks m r
theorem lookF_ok {x : Str} {n : Nat} {ks : List Str} {m : Bool} {e : FunE} : ∀ {l : List FunE}, lookF x n ks m l = some e → e ∈ l ∧ e.x = x ∧ e.n = n ∧ e.ks = ks
  | [], h => by cases h
  | f :: r, h => by
    unfold lookF at h
    split at h
    · rename_i q; cases h; exact ⟨List.mem_cons_self, q.1, q.2.1, q.2.2.1⟩
    · obtain ⟨h1, h2⟩ := lookF_ok h
      exact ⟨List.mem_cons_of_mem _ h1, h2⟩
/-- a def's entry; if none hands out a thing that may change, the other one -/
def lookFm (x : Str) (n : Nat) (ks : List Str) (m : Bool) (l : List FunE) : Option FunE := match lookF x n ks m l with
  | some e => some e
  | none => lookF x n ks (!m) l
theorem lookFm_ok {x : Str} {n : Nat} {ks : List Str} {m : Bool} {e : FunE} {l : List FunE} (h : lookFm x n ks m l = some e) : e ∈ l ∧ e.x = x ∧ e.n = n ∧ e.ks = ks := by
  unfold lookFm at h
  split at h
  · cases h; exact lookF_ok (by assumption)
  · exact lookF_ok h
structure Rec where
  e : Bool → Scope → Expr → Option WE
  t : Scope → Expr → Option WT
section
variable (G : Gam) (N : List Str) (h : Hot) (R : Rec)
def trAs (sc : Scope) : List Expr → Option WA
  | [] => some wNil
  | a :: r => match notStar a, R.e false sc a, trAs sc r with
    | true, some wa, some wr => some (wCons wa wr)
    | _, _, _ => none
def trBE (sc : Scope) (op : BoolOp) : List Expr → Option WE
  | [] => none
  | [a] => R.e false sc a
  | a :: b :: r => match R.e false sc a, trBE sc op (b :: r) with
    | some wa, some wr => (match op with
      | .And => some (wAnd wa wr)
      | .Or => some (wOr wa wr))
    | _, _ => none
def trBT (sc : Scope) (op : BoolOp) : List Expr → Option WT
  | [] => none
  | [a] => R.t sc a
  | a :: b :: r => match R.t sc a, trBT sc op (b :: r) with
    | some wa, some wr => (match op with
      | .And => some (wAndT wa wr)
      | .Or => some (wOrT wa wr))
    | _, _ => none
def trKw (sc : Scope) : List Keyword → Option (List Str × WA)
  | [] => some ([], wNil)
  | ⟨some nm, e, _⟩ :: r => match R.e false sc e, trKw sc r with
    | some wa, some (ks, wr) => some (nm :: ks, wCons wa wr)
    | _, _ => none
  | _ => none
def trPs (sc : Scope) : List (Option Expr) → List Expr → Option (List (WE × WE))
  | [], [] => some []
  | some k :: ks, v :: vs => match R.e false sc k, R.e false sc v, trPs sc ks vs with
    | some wk, some wv, some r => some ((wk, wv) :: r)
    | _, _, _ => none
  | _, _ => none
def trO (sc : Scope) : Option Expr → Option WO
  | none => some wNoP
  | some e => (R.e false sc e).map wPart
/-- what a loop goes through (calm alone) -/
def trI (sc : Scope) : Expr → Option WI
  | .Call (.Name f p) [a] [] pos => if f = "range" ∧ glB sc f = true ∧ notStar a = true then (R.e false sc a).map wRng1 else (R.e false sc (.Call (.Name f p) [a] [] pos)).map wIt
  | .Call (.Name f p) [a, b] [] pos => if f = "range" ∧ glB sc f = true ∧ notStar a = true ∧ notStar b = true then (match R.e false sc a, R.e false sc b with
    | some wa, some wb => some (wRng2 wa wb)
    | _, _ => none) else (R.e false sc (.Call (.Name f p) [a, b] [] pos)).map wIt
  | e => (R.e false sc e).map wIt
def trIf (sc : Scope) : List Expr → Option WT
  | [] => some wYes
  | [c] => R.t sc c
  | _ => none
def calmB : Bool := match h with
  | none => true
  | some _ => false
def trGlob (sc : Scope) (x : Str) : Option WE := if glB sc x = true then (lookN x G.consts).map wC else none
def stepE (m : Bool) (sc : Scope) : Expr → Option WE
  | .Name x _ => if okName x = true then (match slotOf x N with
    | some i => if visB sc x = true then some (wVar i) else trGlob G sc x
    | none => trGlob G sc x) else none
  | .Constant c _ _ => (constD c).map wC
  | .BinOp a op b _ => match opG op, R.e false sc a, R.e false sc b with
    | some g, some wa, some wb => some (wOp g wa wb)
    | _, _, _ => none
  | .UnaryOp op a _ => match op, R.e false sc a with
    | .Not, some wa => some (wNot wa)
    | .USub, some wa => some (wUn gNeg wa)
    | _, _ => none
  | .Compare a [op] [b] _ => match cmpG op, R.e false sc a, R.e false sc b, behindInMarks op b with
    | some g, some wa, some wb, false => some (wOp g wa wb)
    | _, _, _, _ => none
  | .Compare a [op, op'] [b, c] _ => match cmpG op, cmpG op', R.e false sc a, R.e false sc b, R.e false sc c, lastMarks [op, op'] [b, c] with
    | some g, some g', some wa, some wb, some wc, false => some (wChain g g' wa wb wc)
    | _, _, _, _, _, _ => none
  | .BoolOp op vs _ => trBE R sc op vs
  | .IfExp c a b _ => match R.t sc c, R.e m sc a, R.e m sc b with
    | some wt, some wa, some wb => some (wIf wt wa wb)
    | _, _, _ => none
  | .Tuple es _ _ => (trAs R sc es).map wTup
  | .List es _ => (trAs R sc es).map fun w => if m = true then wLstM w else wLst w
  | .Dict keys values _ => match keys, values with
    | [], [] => some (if m = true then wDict0M else wDict0)
    | _, _ => if keys.length = values.length ∧ keys ≠ [] ∧ keys.length ≤ 15 then (trPs R sc keys values).map fun w => if m = true then wDictM w else wDict w else none
  | .Subscript a (.Slice none none (some (.UnaryOp .USub (.Constant (.int 1) _ _) _)) _) _ => (R.e false sc a).map (wUn gRev)
  | .Subscript a (.Slice lo hi none _) _ => match R.e false sc a, trO R sc lo, trO R sc hi with
    | some wa, some wl, some wh => some (wSl gSl wa wl wh)
    | _, _, _ => none
  | .Subscript a b _ => match plainIx b, R.e false sc a, R.e false sc b with
    | true, some wa, some wb => some (wOp gIx wa wb)
    | _, _, _ => none
  | .Attribute (.Name x p) f _ => match h, R.e false sc (.Name x p) with
    | some (a, ca, dx), some wa => if f ∈ G.flds then some (wXf a ca dx f wa) else none
    | _, _ => none
  | .Call (.Name f p) args kws pos =>
    if okName f = true ∧ glB sc f = true then
      (match args, kws with
      | [a, .Name tv p3], [] =>
        if f = "isinstance" then (if notStar a = true ∧ okName tv = true ∧ glB sc tv = true then
          (match lookN tv G.subs, h with
          | some is, some (ea, ca, dx) => (R.e false sc a).map (wXi ea ca dx is)
          | _, _ => match tyOf tv with
            | some t => (R.e false sc a).map (wIsi t)
            | none => none) else none)
        else none
      | _, _ => none).orElse fun _ =>
      (match kws, biCall (calmB h) m f with
      | [], some (b, g) => if args ≠ [] then (trAs R sc args).map (wCB g) else none
      | _, _ => none).orElse fun _ =>
      if calmB h = true ∧ args.all notStar = true then
        (match trKw R sc kws, trAs R sc args with
        | some (ks, wk), some wa => match lookFm f args.length ks m G.funs with
          | some e => some (match kws with
            | [] => wCall e.n e.sp wa
            | _ => wCallK e.n e.ks.length e.sp wa wk)
          | none => none
        | _, _ => none)
      else none
    else none
  | .Call (.Attribute o mt apos) args [] cpos =>
    if plainBase o = true ∧ (apos.endLine == cpos.line) = true ∧ args.length < 25 ∧ args.all notStar = true then
      (match mtCall mt, R.e false sc o, trAs R sc args with
      | some e, some wo, some wa => some (wMt e.T e.g wo wa)
      | _, _, _ => none)
    else none
  | .ListComp elt [⟨.Name x p, iter, ifs, 0⟩] scope _ =>
    (match slotOf x N, calmB h with
    | some i, true => if blkC N sc scope [(x, i)] = true ∧ plainSet iter = true ∧ (locB scope x = true ∨ scope.names.lookup x = some .cell) then
        (match trI R sc iter, trIf R (relS scope sc) ifs, R.e false (relS scope sc) elt with
        | some wi, some wt, some we => some (if m = true then wLcM wi (wgName i) wt we else wLc wi (wgName i) wt we)
        | _, _, _ => none) else none
    | _, _ => none)
  | _ => none
def stepT (sc : Scope) : Expr → Option WT
  | .UnaryOp .Not a _ => (R.t sc a).map wNotT
  | .BoolOp op vs _ => trBT R sc op vs
  | .Compare a [op] [b] _ => match cmpG op, R.e false sc a, R.e false sc b, behindInMarks op b with
    | some g, some wa, some wb, false => some (wTB (wOp g wa wb))
    | _, _, _, _ => none
  | .Compare a [op, op'] [b, c] _ => match cmpG op, cmpG op', R.e false sc a, R.e false sc b, R.e false sc c, lastMarks [op, op'] [b, c] with
    | some g, some g', some wa, some wb, some wc, false => some (wTB (wChain g g' wa wb wc))
    | _, _, _, _, _, _ => none
  | e => if plainT e = true then (R.e false sc e).map wTru else none
end
/-- n: how deep it may go -/
def trN (G : Gam) (N : List Str) (h : Hot) : Nat → Rec
  | 0 => ⟨fun _ _ _ => none, fun _ _ => none⟩
  | n + 1 => ⟨stepE G N h (trN G N h n), stepT (trN G N h n)⟩
end T2

set_option maxRecDepth 100000
set_option maxHeartbeats 4000000
namespace T2
open PySem PySem.Spec PyProof.Rows L2
structure Snd (C : CT) (k : Nat) (G : Gam) (N : List Str) (h : Hot) (R : Rec) : Prop where
  e : ∀ m sc e w, R.e m sc e = some w → ∀ X W, XO C k G N h sc X W → PE X e (upE X.K C W w)
  t : ∀ sc e w, R.t sc e = some w → ∀ X W, XO C k G N h sc X W → PT X e (upT X.K C W w)
section
variable {C : CT} {k : Nat} {G : Gam} {N : List Str} {h : Hot} {R : Rec} {sc : Scope} {X : Cx} {W : WX}
theorem calmB_ok (e : calmB h = true) : h = none := by
  cases h with
  | none => rfl
  | some q => cases e
theorem XO.hu (o : XO C k G N h sc X W) : X.A.units + 1 < cLine := by have := o.un; omega
theorem trAs_ok (S : Snd C k G N h R) (o : XO C k G N h sc X W) : ∀ {es : List Expr} {w : WA}, trAs R sc es = some w → PA X es (upA X.K C W w)
  | [], w, e => by cases e; exact up_nil
  | a :: r, w, e => by
    unfold trAs at e
    split at e
    · rename_i wa wr e1 e2 e3
      cases e
      exact up_cons (S.e _ _ _ _ e2 X W o) (trAs_ok S o e3) (star_cons e1)
    · cases e
theorem trAs_star : ∀ {es : List Expr} {w : WA}, trAs R sc es = some w → es.all notStar = true
  | [], w, e => rfl
  | a :: r, w, e => by
    unfold trAs at e
    split at e
    · rename_i wa wr e1 e2 e3
      rw [List.all_cons, e1, trAs_star e3]
      rfl
    · cases e
theorem trBE_ok (S : Snd C k G N h R) (o : XO C k G N h sc X W) {op : BoolOp} {pos : Pos} : ∀ {es : List Expr} {w : WE}, trBE R sc op es = some w → PE X (.BoolOp op es pos) (upE X.K C W w)
  | [], w, e => by cases e
  | [a], w, e => up_bool1 (S.e _ _ _ _ e X W o)
  | a :: b :: r, w, e => by
    unfold trBE at e
    split at e
    · rename_i wa wr e1 e2
      have h1 := S.e _ _ _ _ e1 X W o
      have h2 := trBE_ok S o (pos := pos) e2
      cases op with
      | And => cases e; exact up_and h1 h2
      | Or => cases e; exact up_or h1 h2
    · cases e
theorem trBT_ok (S : Snd C k G N h R) (o : XO C k G N h sc X W) {op : BoolOp} {pos : Pos} : ∀ {es : List Expr} {w : WT}, trBT R sc op es = some w → PW X (.BoolOp op es pos) (upT X.K C W w)
  | [], w, e => by cases e
  | [a], w, e => by
    have h1 := S.t _ _ _ e X W o
    cases op with
    | And => exact upT_and1 h1
    | Or => exact upT_or1 h1
  | a :: b :: r, w, e => by
    unfold trBT at e
    split at e
    · rename_i wa wr e1 e2
      have h1 := S.t _ _ _ e1 X W o
      have h2 := trBT_ok S o (pos := pos) e2
      cases op with
      | And => cases e; exact upT_and h1 h2
      | Or => cases e; exact upT_or h1 h2
    · cases e
theorem trKw_ok (S : Snd C k G N h R) (o : XO C k G N h sc X W) : ∀ {es : List Keyword} {ks : List Str} {w : WA}, trKw R sc es = some (ks, w) → PK X es (upA X.K C W w) ∧
    (∀ pos, (backToKw pos (keywordEach es X.env)).all (·.1.isSome) = true ∧ (backToKw pos (keywordEach es X.env)).filterMap (·.1) = ks ∧ (backToKw pos (keywordEach es X.env)).any (·.1.isNone) = false)
  | [], ks, w, e => by cases e; exact ⟨up_knil, fun pos => ⟨rfl, rfl, rfl⟩⟩
  | ⟨some nm, a, p⟩ :: r, ks, w, e => by
    unfold trKw at e
    split at e
    · rename_i wa ks' wr e1 e2
      cases e
      obtain ⟨h1, h2⟩ := trKw_ok S o e2
      refine ⟨up_kcons (S.e _ _ _ _ e1 X W o) h1, fun pos => ?_⟩
      obtain ⟨a1, a2, a3⟩ := h2 pos
      refine ⟨?_, ?_, ?_⟩
      · show (true && (backToKw pos (keywordEach r X.env)).all (·.1.isSome)) = true
        rw [a1]; rfl
      · show nm :: (backToKw pos (keywordEach r X.env)).filterMap (·.1) = nm :: ks'
        rw [a2]
      · show (false || (backToKw pos (keywordEach r X.env)).any (·.1.isNone)) = false
        rw [a3]; rfl
    · cases e
  | ⟨none, a, p⟩ :: r, ks, w, e => by cases e
theorem trPs_ok (S : Snd C k G N h R) (o : XO C k G N h sc X W) {pos : Pos} : ∀ {ks : List (Option Expr)} {vs : List Expr} {w : List (WE × WE)}, trPs R sc ks vs = some w → PPs X pos ks vs (w.map fun q => (upE X.K C W q.1, upE X.K C W q.2)) ∧ ks.all (·.isSome) = true
  | [], [], w, e => by cases e; exact ⟨pps_nil, rfl⟩
  | some a :: ks, v :: vs, w, e => by
    unfold trPs at e
    split at e
    · rename_i wk wv r e1 e2 e3
      cases e
      obtain ⟨h1, h2⟩ := trPs_ok S o (pos := pos) e3
      exact ⟨pps_cons (S.e _ _ _ _ e1 X W o) (S.e _ _ _ _ e2 X W o) h1, by rw [List.all_cons, h2]; rfl⟩
    · cases e
  | [], _ :: _, w, e => by cases e
  | none :: _, [], w, e => by cases e
  | some _ :: _, [], w, e => by cases e
  | none :: _, _ :: _, w, e => by cases e
theorem trO_ok (S : Snd C k G N h R) (o : XO C k G N h sc X W) {es : Option Expr} {w : WO} (e : trO R sc es = some w) : PO X es (upO X.K C W w) := by
  cases es with
  | none => cases e; exact up_noP
  | some a =>
    have e : (R.e false sc a).map wPart = some w := e
    cases q : R.e false sc a with
    | none => rw [q] at e; cases e
    | some wa => rw [q] at e; cases e; exact up_part (S.e _ _ _ _ q X W o)
theorem trI_ok (S : Snd C k G N none R) (o : XO C k G N none sc X W) {tg a : Expr} {w : WI} (e : trI R sc a = some w) : PI X tg a (upI X.K C W w) := by
  have any : ∀ {a : Expr} {w : WI}, (R.e false sc a).map wIt = some w → PI X tg a (upI X.K C W w) := fun {a w} e => by
    cases q : R.e false sc a with
    | none => rw [q] at e; cases e
    | some wa => rw [q] at e; cases e; exact up_it (S.e _ _ _ _ q X W o)
  have hf : X.mg "range" = none := o.g.free _ (by decide)
  unfold trI at e
  split at e
  · split at e
    · rename_i f p a pos hc
      obtain ⟨rfl, hg, hs⟩ := hc
      cases q : R.e false sc a with
      | none => rw [q] at e; cases e
      | some wa =>
        rw [q] at e
        cases e
        exact up_rng1 (glB_ok o.eS hg) hf (S.e _ _ _ _ q X W o) (by rw [star_cons hs]; rfl)
    · exact any e
  · split at e
    · rename_i f p a b pos hc
      obtain ⟨rfl, hg, hs, hs2⟩ := hc
      split at e
      · rename_i wa wb e1 e2
        cases e
        exact up_rng2 (glB_ok o.eS hg) hf (S.e _ _ _ _ e1 X W o) (S.e _ _ _ _ e2 X W o) (by rw [star_cons hs, star_cons hs2]; rfl) (by rw [star_cons hs2]; rfl)
      · cases e
    · exact any e
  · exact any e
theorem trIf_ok (S : Snd C k G N h R) (o : XO C k G N h sc X W) {ifs : List Expr} {w : WT} (e : trIf R sc ifs = some w) : PTs X ifs (upT X.K C W w) := by
  unfold trIf at e
  split at e
  · cases e; exact up_yes
  · exact up_one (S.t _ _ _ e X W o)
  · cases e
theorem trGlob_ok (o : XO C k G N h sc X W) {x : Str} {pos : Pos} {w : WE} (hx : okName x = true) (e : trGlob G sc x = some w) : PE X (.Name x pos) (upE X.K C W w) := by
  unfold trGlob at e
  split at e
  · rename_i hg
    cases q : lookN x G.consts with
    | none => rw [q] at e; cases e
    | some d =>
      rw [q] at e
      cases e
      obtain ⟨u, v, h1, h2, h3⟩ := o.g.con _ (lookN_ok q)
      exact up_c (pe_glob (glB_ok o.eS hg) h1 h2 (okName_ok hx).1) h3
  · cases e
/-- the name of a class, as a value -/
theorem cls_name (o : XO C k G N h sc X W) {x : Str} {pos : Pos} {cv : V} {cu : Value} (hx : okName x = true) (hg : glB sc x = true) (hm : (X.mg x = some cu) ∨ (X.mg x = none ∧ bootBuiltins x = some cu)) (r : RelV cv cu) : PE X (.Name x pos) (tC cv) := by
  rcases hm with hm | ⟨hm, hb⟩
  · exact pe_glob (glB_ok o.eS hg) hm r (okName_ok hx).1
  · exact pe_bltn (glB_ok o.eS hg) hm hb r (okName_ok hx).2.2 (okName_ok hx).1
end
end T2

set_option maxRecDepth 100000
set_option maxHeartbeats 4000000
namespace T2
open PySem PySem.Spec PyProof.Rows L2
theorem map_some {α β : Type} {o : Option α} {f : α → β} {b : β} (h : o.map f = some b) : ∃ a, o = some a ∧ f a = b := by
  cases o with
  | none => cases h
  | some a => exact ⟨a, rfl, Option.some.inj h⟩
theorem orElse_some {α : Type} {o : Option α} {f : Unit → Option α} {b : α} (h : o.orElse f = some b) : o = some b ∨ f () = some b := by
  cases o with
  | none => exact .inr h
  | some a => exact .inl h
section
variable {C : CT} {k : Nat} {G : Gam} {N : List Str} {h : Hot} {R : Rec} {sc : Scope} {X : Cx} {W : WX}
theorem relS_eq {scope sc : Scope} {env : PySem.Env} {cl : List (Str × Addr)} {A : Addr} (hs : env.scope = sc) : (compEnvC scope cl A env).scope = relS scope sc := by
  subst hs
  rfl
theorem XO.blk (o : XO C k G N none sc X W) {s : Shared} {H : Hp} {scope : Scope} {A : Addr} {cl : List (Str × Addr)} {fp : List Addr} : XO C k G N none (relS scope sc) (X.blk s H scope (compEnvC scope cl A X.env) fp) WNo where
  g := o.g
  eN := o.eN
  eS := relS_eq o.eS
  nd := o.nd
  un := o.un
  cool := o.cool
  hot := fun _ _ _ h => by cases h
  tk := takes0
theorem up_comp (S : Snd C k G N none R) (o : XO C k G N none sc X W) {m : Bool} {elt iter : Expr} {ifs : List Expr} {scope : Scope} {p : Pos} {x : Str} {i : Nat} {wi : WI} {wt : WT} {we : WE} (hx : slotOf x N = some i)
    (hb : blkC N sc scope [(x, i)] = true) (hp : plainSet iter = true) (hl : locB scope x = true ∨ scope.names.lookup x = some .cell) (h1 : trI R sc iter = some wi) (h2 : trIf R (relS scope sc) ifs = some wt) (h3 : R.e false (relS scope sc) elt = some we) :
    (∀ σ H Q, upE X.K C W (if m = true then wLcM wi (wgName i) wt we else wLc wi (wgName i) wt we) σ H Q → tLc (upI X.K C W wi) (gName i) (upT X.K C WNo wt) (upE X.K C WNo we) [i] σ H Q) ∧
    PI X (.Name x p) iter (upI X.K C W wi) ∧ BlkOk X.N X.env.scope scope [(x, i)] ∧
    (∀ (s : Shared) (H : Hp) (A : Addr) (cl : List (Str × Addr)) (fp : List Addr), PG (X.blk s H scope (compEnvC scope cl A X.env) fp) (.Name x p) (gName i)) ∧
    (∀ (s : Shared) (H : Hp) (A : Addr) (cl : List (Str × Addr)) (fp : List Addr), PTs (X.blk s H scope (compEnvC scope cl A X.env) fp) ifs (upT X.K C WNo wt)) ∧
    (∀ (s : Shared) (H : Hp) (A : Addr) (cl : List (Str × Addr)) (fp : List Addr), PE (X.blk s H scope (compEnvC scope cl A X.env) fp) elt (upE X.K C WNo we)) ∧ (∀ y, foldedSetIterable iter X.env y = pure y) := by
  have hN : X.N[i]? = some x := by rw [o.eN]; exact slotOf_ok hx
  refine ⟨?_, trI_ok S o h1, ?_, fun s H A cl fp => ?_, fun s H A cl fp => ?_, fun s H A cl fp => ?_, plainSet_ok hp⟩
  · cases m with
    | true => exact up_lcM tgt_name
    | false => exact up_lcF tgt_name
  · rw [o.eN, o.eS]
    exact blkOk_by hb
  · have ob := o.blk (s := s) (H := H) (scope := scope) (A := A) (cl := cl) (fp := fp)
    have hl' : scope.names.lookup x = some .local ∨ scope.names.lookup x = some .cell := hl.elim (fun h => .inl (locB_ok h)) .inr
    have hk : (relS scope sc).names.lookup x = scope.names.lookup x := by
      rcases hl' with h | h
      · rw [h]; exact lookup_relS_keep (by decide) h
      · rw [h]; exact lookup_relS_keep (by decide) h
    refine pg_name o.nd hN ?_ ?_
    · show Loc (X.blk s H scope (compEnvC scope cl A X.env) fp).env.scope x
      rw [ob.eS]
      rcases hl' with h | h
      · exact .inl (hk.trans h)
      · exact .inr (hk.trans h)
    · rcases hl' with h | h
      · refine .inr ?_
        rw [ob.eS]
        exact hk.trans h
      · refine .inl ?_
        show (scope.names.lookup x == some NameKind.cell) = true
        rw [h]; rfl
  · exact trIf_ok S o.blk h2
  · exact S.e _ _ _ _ h3 _ _ o.blk
theorem stepE_ok (S : Snd C k G N h R) : ∀ m sc e w, stepE G N h R m sc e = some w → ∀ X W, XO C k G N h sc X W → PE X e (upE X.K C W w) := by
  intro m sc e w eq X W o
  unfold stepE at eq
  split at eq
  · -- a name
    split at eq
    · rename_i x p hx
      split at eq
      · rename_i i hi
        split at eq
        · rename_i hv
          cases eq
          have hN : X.N[i]? = some x := by rw [o.eN]; exact slotOf_ok hi
          exact up_var (pe_var hN (by rw [o.eS]; exact visB_ok hv) (okName_ok hx).1 (okName_ok hx).2.1)
        · exact trGlob_ok o hx eq
      · exact trGlob_ok o hx eq
    · cases eq
  · obtain ⟨d, h1, rfl⟩ := map_some eq
    exact up_const h1
  · split at eq
    · rename_i h1 h2 h3
      cases eq
      exact up_op (opG_ok h1) (S.e _ _ _ _ h2 X W o) (S.e _ _ _ _ h3 X W o)
    · cases eq
  · split at eq
    · rename_i h2
      cases eq
      exact up_not (S.e _ _ _ _ h2 X W o)
    · rename_i h2
      cases eq
      exact up_neg (S.e _ _ _ _ h2 X W o)
    · cases eq
  · split at eq
    · rename_i h1 h2 h3 h4
      cases eq
      exact up_cmp (cmpG_ok o.hu h1) (S.e _ _ _ _ h2 X W o) (S.e _ _ _ _ h3 X W o) h4
    · cases eq
  · split at eq
    · rename_i h1 h2 h3 h4 h5 h6
      cases eq
      exact up_chain (cmpG_ok o.hu h1) (cmpG_ok o.hu h2) (S.e _ _ _ _ h3 X W o) (S.e _ _ _ _ h4 X W o) (S.e _ _ _ _ h5 X W o) h6
    · cases eq
  · exact trBE_ok S o eq
  · split at eq
    · rename_i h1 h2 h3
      cases eq
      exact up_if (S.t _ _ _ h1 X W o) (S.e _ _ _ _ h2 X W o) (S.e _ _ _ _ h3 X W o)
    · cases eq
  · obtain ⟨d, h1, rfl⟩ := map_some eq
    exact up_tup (trAs_ok S o h1)
  · obtain ⟨d, h1, rfl⟩ := map_some eq
    cases m with
    | true => exact up_lstM (trAs_ok S o h1)
    | false => exact up_lst (trAs_ok S o h1)
  · split at eq
    · cases eq
      cases m with
      | true => exact up_dict0M
      | false => exact up_dict0
    · split at eq
      · rename_i hc
        obtain ⟨d, h1, rfl⟩ := map_some eq
        obtain ⟨h2, h3⟩ := trPs_ok S o h1
        cases m with
        | true => exact up_dictM h2 h3 hc.1 hc.2.1 hc.2.2
        | false => exact up_dict h2 h3 hc.1 hc.2.1 hc.2.2
      · cases eq
  · obtain ⟨d, h1, rfl⟩ := map_some eq
    exact up_rev (S.e _ _ _ _ h1 X W o)
  · split at eq
    · rename_i h1 h2 h3
      cases eq
      exact up_sl (S.e _ _ _ _ h1 X W o) (trO_ok S o h2) (trO_ok S o h3)
    · cases eq
  · split at eq
    · rename_i h1 h2 h3
      cases eq
      exact up_ix o.hu (S.e _ _ _ _ h2 X W o) (S.e _ _ _ _ h3 X W o) (plainIx_ok h1)
    · cases eq
  · -- e.f of the exception
    split at eq
    · rename_i x p f pos a ca dx wa h2
      split at eq
      · rename_i hf
        cases eq
        obtain ⟨X0, pn, oe, rfl, h3, h4, h5, h6, h7⟩ := o.hot a ca dx rfl
        exact up_xf (X := X0) h5 (h7 _ hf) h3 h4 (S.e _ _ _ _ h2 _ W o) (plainBase_ok rfl)
      · cases eq
    · cases eq
  · -- calls
    split at eq
    · rename_i f p args kws pos hc
      obtain ⟨hn, hg⟩ := hc
      have hgl := glB_ok o.eS hg
      obtain ⟨n1, n2, n3⟩ := okName_ok hn
      rcases orElse_some eq with eq | eq
      · split at eq
        · split at eq
          · split at eq
            · rename_i a tv p3 hf hc
              subst hf
              obtain ⟨c1, c2, c3⟩ := hc
              have hfree : X.mg "isinstance" = none := o.g.free _ (by decide)
              split at eq
              · rename_i is ea ca dx hs
                obtain ⟨wa, h1, rfl⟩ := map_some eq
                obtain ⟨X0, pn, oe, hX, h3, h4, h5, h6, h7⟩ := o.hot ea ca dx rfl
                obtain ⟨cv, cu, m1, m2, m3, m4⟩ := (o.g.sub _ (lookN_ok hs)).ex
                refine up_xi (oe := oe) (cv := cv) (cu := cu) (by rw [hX]; exact List.mem_cons_self) h6 h3 h4 m3 (fun c hcx => (m4 c ca hcx).1) hgl hfree (S.e _ _ _ _ h1 X W o) (cls_name o c2 c3 m1 m2) (star_cons c1)
              · split at eq
                · rename_i t ht
                  obtain ⟨wa, h1, rfl⟩ := map_some eq
                  obtain ⟨b1, b2⟩ := tyOf_ok ht
                  exact up_isi hgl hfree (S.e _ _ _ _ h1 X W o) (cls_name o c2 c3 (.inr ⟨o.g.free _ b1, b2⟩) rfl) (star_cons c1)
                · cases eq
            · cases eq
          · cases eq
        · cases eq
      · rcases orElse_some eq with eq | eq
        · split at eq
          · rename_i b g hb _ _
            split at eq
            · rename_i hne
              obtain ⟨wa, h1, rfl⟩ := map_some eq
              have hcl : calmB h = true → X.calm = true := fun e => (o.cool (calmB_ok e)).1
              obtain ⟨b1, b2, b3⟩ := biCall_ok (C := C) hcl hb
              have hst := trAs_star h1
              have hpa := trAs_ok S o h1
              cases args with
              | nil => exact absurd rfl hne
              | cons a r =>
                rw [List.all_cons, Bool.and_eq_true] at hst
                cases b with
                | fn id => exact up_callB b3 hgl (o.g.free _ b1) b2 hpa n3 n1 (star_cons hst.1) (star_any hst.2)
                | ty id => exact up_callTy b3 hgl (o.g.free _ b1) b2 hpa n3 n1 (star_cons hst.1) (star_any hst.2)
            · cases eq
          · cases eq
        · split at eq
          · rename_i hc
            obtain ⟨hcm, hst⟩ := hc
            have hcool := o.cool (calmB_ok hcm)
            split at eq
            · rename_i ks wk wa hk ha
              split at eq
              · rename_i e he
                cases eq
                obtain ⟨m1, m2, m3, m4⟩ := lookFm_ok he
                have F := o.g.fn e m1
                rw [m2, m3, m4] at F
                have hpa := trAs_ok S o ha
                obtain ⟨k1, k2⟩ := trKw_ok S o hk
                cases kws with
                | nil =>
                  cases hk
                  cases args with
                  | nil =>
                    cases ha
                    rw [m3]
                    exact up_call0 F hcool.2 o.tk hgl n1
                  | cons a r =>
                    rw [List.all_cons, Bool.and_eq_true] at hst
                    rw [m3]
                    exact up_call F hcool.2 o.tk hgl hpa n1 (star_cons hst.1) (star_any hst.2)
                | cons kw kr =>
                  obtain ⟨q1, q2, q3⟩ := k2 pos
                  cases args with
                  | nil =>
                    cases ha
                    rw [m3, m4]
                    exact up_callK0 F hcool.2 o.tk hgl k1 n1 q1 q2 (by rw [q3]; rfl)
                  | cons a r =>
                    have hs2 := star_any (env := X.env) (pos := pos) hst
                    rw [List.all_cons, Bool.and_eq_true] at hst
                    rw [m3, m4]
                    exact up_callK F hcool.2 o.tk hgl hpa k1 n1 q1 q2 (star_cons hst.1) (by rw [q3, hs2]; rfl)
              · cases eq
            · cases eq
          · cases eq
    · cases eq
  · -- methods
    split at eq
    · rename_i ob mt apos args cpos hc
      obtain ⟨c1, c2, c3, c4⟩ := hc
      split at eq
      · rename_i e wo wa h1 h2 h3
        cases eq
        obtain ⟨m1, m2, m3, m4⟩ := mtCall_ok (C := C) o.hu h1
        have hpa := trAs_ok S o h3
        have hpo := S.e _ _ _ _ h2 X W o
        cases args with
        | nil =>
          cases h3
          exact up_bm0 m1 m2 m3 m4 hpo (plainBase_ok c1) c2
        | cons a r =>
          have hall := star_all (env := X.env) (pos := cpos) c4
          rw [List.all_cons, Bool.and_eq_true] at c4
          refine up_bm m1 m2 m3 m4 hpo hpa (plainBase_ok c1) ?_ c2 (star_cons c4.1) (star_any c4.2)
          rw [hall]
          have : (a :: r).length + ([] : List Keyword).length + (if ([] : List Keyword).isEmpty then 0 else 1) < 30 := by
            show (a :: r).length + 0 + 0 < 30
            omega
          rw [decide_eq_true this]
          rfl
      · cases eq
    · cases eq
  · -- a comprehension
    split at eq
    · rename_i elt x p iter ifs scope pos _ _ i hx hcm
      have := calmB_ok hcm
      subst this
      split at eq
      · rename_i hc
        split at eq
        · rename_i h1 h2 h3
          cases eq
          obtain ⟨q1, q2, q3, q4, q5, q6, q7⟩ := up_comp (p := p) (m := m) S o hx hc.1 hc.2.1 hc.2.2 h1 h2 h3
          exact PE.imp (pe_lc (o.cool rfl).1 o.nd q2 q3 q4 q5 q6 q7) q1
        · cases eq
      · cases eq
    · cases eq
  · cases eq
theorem stepT_ok (S : Snd C k G N h R) : ∀ sc e w, stepT R sc e = some w → ∀ X W, XO C k G N h sc X W → PT X e (upT X.K C W w) := by
  intro sc e w eq X W o
  unfold stepT at eq
  split at eq
  · obtain ⟨d, h1, rfl⟩ := map_some eq
    exact upT_not (S.t _ _ _ h1 X W o)
  · exact (trBT_ok S o eq).pt
  · split at eq
    · rename_i h1 h2 h3 h4
      cases eq
      exact upT_cmp (cmpG_ok o.hu h1) (S.e _ _ _ _ h2 X W o) (S.e _ _ _ _ h3 X W o) h4
    · cases eq
  · split at eq
    · rename_i h1 h2 h3 h4 h5 h6
      cases eq
      exact upT_chain (cmpG_ok o.hu h1) (cmpG_ok o.hu h2) (S.e _ _ _ _ h3 X W o) (S.e _ _ _ _ h4 X W o) (S.e _ _ _ _ h5 X W o) h6
    · cases eq
  · split at eq
    · rename_i hp
      obtain ⟨d, h1, rfl⟩ := map_some eq
      exact upT_tru (S.e _ _ _ _ h1 X W o) (plainT_ok hp)
    · cases eq
theorem trN_ok : ∀ n, Snd C k G N h (trN G N h n)
  | 0 => ⟨fun _ _ _ _ e => (by cases e), fun _ _ _ e => (by cases e)⟩
  | n + 1 => ⟨stepE_ok (trN_ok n), stepT_ok (trN_ok n)⟩
end
end T2

set_option maxRecDepth 100000
set_option maxHeartbeats 4000000
namespace T2
open PySem PySem.Spec PyProof.Rows L2
/-! ### statements, from the syntax -/
def locC (sc : Scope) (x : Str) : Bool := match sc.names.lookup x with
  | some .local => true
  | some .cell => true
  | _ => false
theorem locC_ok {sc : Scope} {x : Str} (h : locC sc x = true) : Loc sc x := by
  unfold locC at h
  split at h
  · exact .inl (by assumption)
  · exact .inr (by assumption)
  · cases h
def cellB (sc : Scope) (x : Str) : Bool := match sc.names.lookup x with
  | some .cell => true
  | _ => false
theorem cellB_ok {sc : Scope} {x : Str} (h : cellB sc x = true) : sc.names.lookup x = some .cell := by
  unfold cellB at h
  split at h
  · assumption
  · cases h
theorem sw_cell {elt : Expr} {gs : List Comprehension} {scope : Scope} {pos py : Pos} {y : Str} {l : Nat} {env : PySem.Env} (hy : env.scope.names.lookup y = some .cell) : swapsWith (.ListComp elt gs scope pos) (some (.Name y py)) l env = pure false := by
  have ky : env.kindOf y = some .cell := hy
  have e : (some NameKind.cell == some NameKind.local) = false := by decide
  unfold swapsWith
  simp only [ky, e, Bool.and_false, Bool.false_and]
def memB (x : Str) : List Str → Bool
  | [] => false
  | y :: r => if y = x then true else memB x r
def namesT (N : List Str) (sc : Scope) : List Expr → Option (List Nat)
  | [] => some []
  | .Name x _ :: r => match slotOf x N, locC sc x, namesT N sc r with
    | some i, true, some is => some (i :: is)
    | _, _, _ => none
  | _ => none
def wgT (is : List Nat) : WG := fun d ρ μ Q => ∃ ds, d = .tup ds ∧ ds.length = is.length ∧ Q (setAll is ds ρ)
def trG (N : List Str) (sc : Scope) : Expr → Option WG
  | .Name x _ => match slotOf x N, locC sc x with
    | some i, true => some (wgName i)
    | _, _ => none
  | .Tuple es _ _ => (namesT N sc es).map wgT
  | _ => none
def noCap (scope : Scope) (y : Str) : Bool := !(scope.names.any fun (n, k) => n == y && (k == .local || k == .cell))
def kfB (sc : Scope) : Bool := match sc.kind with
  | .function => true
  | _ => false
section
variable (G : Gam) (N : List Str) (sc : Scope) (mv : List Str) (mr : Bool) (D0 : Nat)
def trH (S : Hot → List Stmt → Option WS) : List ExceptHandler → Option (List ClD)
  | [] => some []
  | .ExceptHandler (some (.Name x _)) (some n) (b0 :: suite) _ :: r => match lookN x G.subs, okName x, glB sc x, slotOf n N, locB sc n, trH S r with
    | some is, true, true, some i, true, some l => some ((is, i, fun a ca dx => (S (some (a, ca, dx)) (b0 :: suite)).getD fun _ _ _ => False) :: l)
    | _, _, _, _, _, _ => none
  | _ => none
def stepS (S : Hot → List Stmt → Option WS) (h : Hot) : Stmt → Option WS
  | .Pass _ => some wNext
  | .Break _ => some wBreak
  | .Continue _ => some wCont
  | .Expr e _ => if plainSw e = true then ((trN G N h D0).e false sc e).map wDrop else none
  | .Return (some e) _ => ((trN G N h D0).e mr sc e).map wRet
  | .Return none _ => some wRetN
  | .If c b1 b2 _ => match (trN G N h D0).t sc c, S h b1, S h b2 with
    | some t, some w, some w2 => some (wIfS t w w2)
    | _, _, _ => none
  | .While c b [] _ => match (trN G N h D0).t sc c, S h b with
    | some t, some w => some (wWhile t w)
    | _, _ => none
  | .For tg iter b [] _ => match calmB h, plainSet iter, trG N sc tg, trI (trN G N h D0) sc iter, S h b with
    | true, true, some g, some wi, some w => some (wFor wi g w)
    | _, _, _, _, _ => none
  | .Assign [.Name x px] (.ListComp elt [⟨.Name y p, iter, ifs, 0⟩] scope cpos) _ =>
    (match slotOf x N, slotOf y N, calmB h with
    | some i, some j, true =>
      if blkC N sc scope [(y, j)] = true ∧ plainSet iter = true ∧ (locB scope y = true ∨ scope.names.lookup y = some .cell) ∧ locB sc x = true ∧ (px.line == cpos.line) = true ∧ noCap scope x = true ∧ kfB sc = true then
        (match trI (trN G N h D0) sc iter, trIf (trN G N h D0) (relS scope sc) ifs, (trN G N h D0).e false (relS scope sc) elt with
        | some wi, some wt, some we => some (wAsg i (if memB x mv = true then wLcM wi (wgName j) wt we else wLc wi (wgName j) wt we))
        | _, _, _ => none) else
      if cellB sc x = true then ((trN G N h D0).e (memB x mv) sc (.ListComp elt [⟨.Name y p, iter, ifs, 0⟩] scope cpos)).map (wAsg i) else none
    | _, _, _ => none)
  | .Assign [.Name x px] e _ => match slotOf x N, locC sc x, plainSw e, (trN G N h D0).e (memB x mv) sc e with
    | some i, true, true, some w => some (wAsg i w)
    | _, _, _, _ => none
  | .Assign [.Subscript o i _] e _ => match plainSw e, (trN G N h D0).e false sc e, (trN G N h D0).e false sc o, (trN G N h D0).e false sc i, i with
    | _, _, _, _, .Slice .. => none
    | true, some we, some wo, some wi, _ => some (wSet gSet wo wi we)
    | _, _, _, _, _ => none
  | .Assign [.Tuple es _ _] e _ => match e, calmB h, plainSw e, namesT N sc es, (trN G N h D0).e false sc e with
    | .Tuple .., _, _, _, _ => none
    | _, true, true, some is, some we => some (wAsgG (wgT is) we)
    | _, _, _, _, _ => none
  | .Raise (some (.Call (.Name x p) (a :: r) [] _)) none _ => match calmB h, lookN x G.raises, okName x, glB sc x, (a :: r).all notStar, trAs (trN G N h D0) sc (a :: r) with
    | true, some fs, true, true, true, some was => if fs.length ≤ 1000 ∧ fs ≠ [] then some (wRaise x fs was) else none
    | _, _, _, _, _, _ => none
  | .Try body [.ExceptHandler (some (.Name x np)) (some n) (b0 :: suite) _] [] [] _ => match h, lookN x G.subs, okName x, glB sc x, slotOf n N, locB sc n, S none body with
    | none, some is, true, true, some i, true, some w => some (wTry is i w fun a ca dx => (S (some (a, ca, dx)) (b0 :: suite)).getD fun _ _ _ => False)
    | _, _, _, _, _, _, _ => none
  | .Try body (h0 :: hds) [] [] _ => match h, trH G N sc S (h0 :: hds), S none body with
    | none, some cl, some w => some (wTryM cl w)
    | _, _, _ => none
  | _ => none
def trSN : Nat → Hot → List Stmt → Option WS
  | 0, _, _ => none
  | _ + 1, _, [] => some wNext
  | n + 1, h, [st] => stepS G N sc mv mr D0 (trSN n) h st
  | n + 1, h, st :: b :: r => match stepS G N sc mv mr D0 (trSN n) h st, trSN n h (b :: r) with
    | some w, some w2 => some (wSeq w w2)
    | _, _ => none
end
structure XSt (C : CT) (k : Nat) (G : Gam) (N : List Str) (h : Hot) (sc : Scope) (X : Cx) (W : WX) : Prop where
  o : XO C k G N h sc X W
  fn : ∀ x, X.fn x = true
  st : X.stack = X.env :: X.outer
  fr : X.env.frame = some X.env.locals
  po : PassesOwn (model X.prog X.w) X.A X.env X.xe
section
variable {C : CT} {k : Nat} {G : Gam} {N : List Str} {h : Hot} {sc : Scope} {X : Cx} {W : WX} {mv : List Str} {mr : Bool} {D0 : Nat}
theorem namesT_ok (hN : X.N.Nodup) (eN : X.N = N) (eS : X.env.scope = sc) (fn : ∀ x, X.fn x = true) : ∀ {es : List Expr} {is : List Nat}, namesT N sc es = some is →
    PGs X es (gNames is) ∧ (assignEach es X.env).length = is.length ∧ (assignEach es X.env).findIdx? (·.1) = none
  | [], is, e => by cases e; exact ⟨pgs_nil, rfl, rfl⟩
  | a :: r, is, e => by
    unfold namesT at e
    split at e
    · rename_i e0; cases e0
    · rename_i x p r' e0
      cases e0
      split at e
      · rename_i i is' h1 h2 h3
        cases e
        obtain ⟨q1, q2, q3⟩ := namesT_ok hN eN eS fn h3
        refine ⟨pgs_cons (pg_name hN (by rw [eN]; exact slotOf_ok h1) (by rw [eS]; exact locC_ok h2) (.inl (fn x))) q1 rfl, ?_, ?_⟩
        · show (assignEach r X.env).length + 1 = is'.length + 1
          rw [q2]
        · show ((false, assign (.Name x p) X.env) :: assignEach r X.env).findIdx? (·.1) = none
          rw [List.findIdx?_cons, q3]
          rfl
      · cases e
    · cases e
theorem up_gtup {tg : Expr} {is : List Nat} (h : PG X tg (gTup X.K is.length (gNames is))) : PG X tg (upG X.K C (wgT is)) := PG.imp h fun v σ H Q ⟨L, F, ρ, μ, d, Q0, rl, r, ⟨ds, e, hl, q⟩, uq⟩ => by
  subst e
  obtain ⟨a, xs, rfl, hq, rx⟩ := r.tup
  exact ⟨a, xs, rfl, rl.wd.sub.sqT hq, by rw [rx.len]; exact hl, gNames_ok (by rw [rx.len]; exact hl) (uq _ q _ (rl.setAll rx))⟩
theorem trG_ok (x : XSt C k G N none sc X W) {tg : Expr} {g : WG} (e : trG N sc tg = some g) : PG X tg (upG X.K C g) := by
  unfold trG at e
  split at e
  · split at e
    · rename_i i h1 h2
      cases e
      exact up_gname (pg_name x.o.nd (by rw [x.o.eN]; exact slotOf_ok h1) (by rw [x.o.eS]; exact locC_ok h2) (.inl (x.fn _)))
    · cases e
  · obtain ⟨is, h1, rfl⟩ := map_some e
    obtain ⟨q1, q2, q3⟩ := namesT_ok x.o.nd x.o.eN x.o.eS x.fn h1
    exact up_gtup (pg_tup (x.o.cool rfl).1 q1 q2 q3)
  · cases e
theorem kfB_ok {sc : Scope} (h : kfB sc = true) : sc.kind = .function := by
  unfold kfB at h
  split at h
  · assumption
  · cases h
def SndS (C : CT) (k : Nat) (G : Gam) (N : List Str) (sc : Scope) (S : Hot → List Stmt → Option WS) : Prop := ∀ h sts w, S h sts = some w → ∀ X W, XSt C k G N h sc X W → PSs X sts (upS X.K C W w)
theorem XSt.tr (x : XSt C k G N none sc X W) {W' : WX} {pn : List (Addr × Obj)} {xe : Value → Shared → Prop} (tk : Takes (X.tr pn xe) W') (po : PassesOwn (model X.prog X.w) X.A X.env xe) : XSt C k G N none sc (X.tr pn xe) W' where
  o := ⟨x.o.g, x.o.eN, x.o.eS, x.o.nd, x.o.un, x.o.cool, fun _ _ _ e => (by cases e), tk⟩
  fn := x.fn
  st := x.st
  fr := x.fr
  po := po
theorem XSt.suite (x : XSt C k G N none sc X W) {a : Addr} {oe : Obj} {ca : Addr} {dx : Option Addr} {pn : List (Addr × Obj)} (hc : ∃ c, C.xcls c = some ca) (hz : Zc (.ref ca) dx oe) (hf : ∃ vs, oe.data = .fields vs) : XSt C k G N (some (a, ca, dx)) sc (X.suite a ((a, oe) :: pn)) WNo where
  o := ⟨x.o.g, x.o.eN, x.o.eS, x.o.nd, x.o.un, fun e => (by cases e), fun a' ca' dx' e => by
    cases e
    obtain ⟨c, hc⟩ := hc
    obtain ⟨h1, h2, h3⟩ := x.o.g.xc c ca hc
    exact ⟨X, pn, oe, rfl, hz, hf, h1, h2, h3⟩, takes0⟩
  fn := x.fn
  st := x.st
  fr := x.fr
  po := PassesOwn.never
theorem swNone {t e : Expr} {env : PySem.Env} (h : ∀ es k p, e = .Tuple es k p → False) : swappedStores [t] e env = pure none := by
  cases e <;> first | (exact (h _ _ _ rfl).elim) | (cases t <;> rfl)
theorem soleSw {t e : Expr} {l : Nat} {env : PySem.Env} (h : plainSw e = true) : swapsWithSole [t] e l env = pure false := plainSw_ok h
theorem us_never {sts : List Stmt} : PSs X sts (upS X.K C W fun _ _ _ => False) := ⟨fun pins s σ H D I h => by obtain ⟨L, F, ρ, μ, k, rl, q, u⟩ := h; exact q.elim⟩
theorem names_ok (x : XSt C k G N h sc X W) {y : Str} {cv : V} {cu : Value} (m1 : (X.mg y = some cu) ∨ (X.mg y = none ∧ bootBuiltins y = some cu)) (hx : okName y = true) (hg : glB sc y = true) : Names X y cu := by
  refine ⟨glB_ok x.o.eS hg, (okName_ok hx).1, ?_⟩
  rcases m1 with m1 | ⟨m1, m1'⟩
  · exact .inl m1
  · exact .inr ⟨m1, m1', (okName_ok hx).2.2⟩
theorem trH_ok {S : Hot → List Stmt → Option WS} (hS : SndS C k G N sc S) (x : XSt C k G N none sc X W) : ∀ {hds : List ExceptHandler} {cl : List ClD}, trH G N sc S hds = some cl → HdD X C hds cl
  | [], cl, e => by cases e; exact .nil
  | .ExceptHandler (some (.Name y np)) (some n) (b0 :: suite) p :: r, cl, e => by
    unfold trH at e
    split at e
    · rename_i is i l h1 h2 h3 h4 h5 h6
      cases e
      obtain ⟨cv, cu, m1, m2, m3, m4⟩ := (x.o.g.sub _ (lookN_ok h1)).ex
      refine .cons (by rw [x.o.eN]; exact slotOf_ok h4) (by
        show X.env.scope.names.lookup _ = _
        rw [x.o.eS]; exact locB_ok h5) (names_ok x (cv := cv) m1 h2 h3) (fun c ca hc => (m4 c ca hc).2) (fun a oe ca dx pn hc hz hd => ?_) (trH_ok hS x h6)
      obtain ⟨c, hc, _⟩ := hc
      cases e : S (some (a, ca, dx)) (b0 :: suite) with
      | none => exact us_never
      | some w' => exact hS _ _ _ e _ _ (x.suite ⟨c, hc⟩ hz hd)
    · cases e
theorem stepS_ok {S : Hot → List Stmt → Option WS} (hS : SndS C k G N sc S) {st : Stmt} {w : WS} (eq : stepS G N sc mv mr D0 S h st = some w) (x : XSt C k G N h sc X W) : PS X st (upS X.K C W w) := by
  have T := trN_ok (C := C) (k := k) (G := G) (N := N) (h := h) D0
  have o := x.o
  unfold stepS at eq
  split at eq
  · cases eq; exact us_pass
  · cases eq; exact us_break
  · cases eq; exact us_cont
  · split at eq
    · rename_i hp
      obtain ⟨we, h1, rfl⟩ := map_some eq
      exact us_expr (T.e _ _ _ _ h1 X W o) (plainSw_ok hp)
    · cases eq
  · obtain ⟨we, h1, rfl⟩ := map_some eq
    exact us_ret (T.e _ _ _ _ h1 X W o)
  · cases eq; exact us_retN
  · split at eq
    · rename_i h1 h2 h3
      cases eq
      exact us_if (T.t _ _ _ h1 X W o) (hS _ _ _ h2 X W x) (hS _ _ _ h3 X W x)
    · cases eq
  · split at eq
    · rename_i h1 h2
      cases eq
      exact us_while x.po (T.t _ _ _ h1 X W o) (hS _ _ _ h2 X W x)
    · cases eq
  · split at eq
    · rename_i hcm hp hg hi hb
      cases eq
      have := calmB_ok hcm
      subst this
      exact us_for x.po (o.cool rfl).1 (trI_ok T o hi) (trG_ok x hg) (hS _ _ _ hb X W x) (plainSet_ok hp)
    · cases eq
  · -- name = a comprehension
    split at eq
    · rename_i hx hy hcm
      have := calmB_ok hcm
      subst this
      split at eq
      · rename_i hc
        obtain ⟨c1, c2, c3, c4, c5, c6, c7⟩ := hc
        split at eq
        · rename_i h1 h2 h3
          cases eq
          obtain ⟨q1, q2, q3, q4, q5, q6, q7⟩ := up_comp (m := memB _ mv) T o hy c1 c2 c3 h1 h2 h3
          have hl := locB_ok c4
          have hN := slotOf_ok hx
          refine us_asg0 (PS.imp (ps_setLc (o.cool rfl).1 o.nd (by rw [o.eN]; exact hN) (by rw [o.eS]; exact hl) (sw_true (by rw [o.eS]; exact kfB_ok c7) (by rw [o.eS]; exact hl) c5 (by
            unfold noCap at c6
            rw [Bool.not_eq_true'] at c6
            exact c6)) q2 q3 q4 q5 q6 q7) fun B σ H hh => q1 σ H _ hh)
        · cases eq
      · split at eq
        · rename_i hcell
          obtain ⟨we, h1, rfl⟩ := map_some eq
          have hcl := cellB_ok hcell
          exact us_asg0 (ps_set o.nd (by rw [o.eN]; exact slotOf_ok hx) (by rw [o.eS]; exact .inr hcl) (T.e _ _ _ _ h1 X W o) (sw_cell (by rw [o.eS]; exact hcl)) (.inl (x.fn _)))
        · cases eq
    · cases eq
  · split at eq
    · rename_i h1 h2 h3 h4
      cases eq
      exact us_asg0 (ps_set o.nd (by rw [o.eN]; exact slotOf_ok h1) (by rw [o.eS]; exact locC_ok h2) (T.e _ _ _ _ h4 X W o) (plainSw_ok h3) (.inl (x.fn _)))
    · cases eq
  · -- o[i] = e
    split at eq
    · cases eq
    · rename_i h1 h2 h3 h4 h5
      cases eq
      obtain ⟨t, g1, g2⟩ := setd (X := X) (C := C) o.hu
      have e0 := T.e _ _ _ _ h2 X W o
      have e1 := T.e _ _ _ _ h3 X W o
      have e2 := T.e _ _ _ _ h5 X W o
      refine us_set0 g2 (ps_asg e0 (pg_sub e1 e2 g1 (fun v => ?_)) (soleSw h1) rfl rfl)
      unfold assign
      split
      · exact (h4 _ _ _ _ rfl).elim
      · rfl
    · cases eq
  · -- a, b = e
    split at eq
    · cases eq
    · rename_i hnt hcm h1 h2 h3
      cases eq
      have := calmB_ok hcm
      subst this
      obtain ⟨q1, q2, q3⟩ := namesT_ok o.nd o.eN o.eS x.fn h1
      refine us_asgG (ps_asg (T.e _ _ _ _ h3 X W o) (up_gtup (pg_tup (o.cool rfl).1 q1 q2 q3)) (soleSw h2) (swNone hnt) rfl)
    · cases eq
  · -- raise
    split at eq
    · rename_i hcm h1 h2 h3 h4 h5
      have := calmB_ok hcm
      subst this
      split at eq
      · rename_i hc
        cases eq
        obtain ⟨j, hj, M⟩ := o.g.rs _ (lookN_ok h1)
        have hst := h4
        rw [List.all_cons, Bool.and_eq_true] at hst
        exact us_raise M hc ((o.cool rfl).2.mono hj) (o.cool rfl).1 o.tk (glB_ok o.eS h3) (trAs_ok T o h5) (okName_ok h2).1 (star_cons hst.1) (star_any hst.2)
      · cases eq
    · cases eq
  · -- try
    split at eq
    · rename_i h1 h2 h3 h4 h5 h6
      cases eq
      obtain ⟨cv, cu, m1, m2, m3, m4⟩ := (o.g.sub _ (lookN_ok h1)).ex
      refine us_try (cu := cu) x.st x.fr o.nd (by rw [o.eN]; exact slotOf_ok h4) (by
        show X.env.scope.names.lookup _ = _
        rw [o.eS]; exact locB_ok h5) ⟨glB_ok o.eS h3, (okName_ok h2).1, ?_⟩ o.tk (fun c ca hc => (m4 c ca hc).2) (fun W' pn xe tk po => hS _ _ _ h6 _ _ (x.tr tk po)) fun a oe ca dx pn hc hz hd => ?_
      · rcases m1 with m1 | ⟨m1, m1'⟩
        · exact .inl m1
        · exact .inr ⟨m1, m1', (okName_ok h2).2.2⟩
      · obtain ⟨c, hc, _⟩ := hc
        cases e : S (some (a, ca, dx)) (_ :: _) with
        | none => exact us_never
        | some w' => exact hS _ _ _ e _ _ (x.suite ⟨c, hc⟩ hz hd)
    · cases eq
  · split at eq
    · rename_i h1 h2
      cases eq
      exact us_tryM x.st x.fr o.nd o.tk (fun W' pn xe tk po => hS _ _ _ h2 _ _ (x.tr tk po)) (trH_ok hS x h1)
    · cases eq
  · cases eq
theorem trSN_ok : ∀ n, SndS C k G N sc (trSN G N sc mv mr D0 n)
  | 0 => fun h sts w e => by cases e
  | n + 1 => fun h sts w e X W x => by
    unfold trSN at e
    split at e
    · cases e
    · cases e; exact us_nil
    · exact pss_one (stepS_ok (trSN_ok _) e x)
    · split at e
      · rename_i h1 h2
        cases e
        exact us_cons (stepS_ok (trSN_ok _) h1 x) (trSN_ok _ _ _ _ h2 X W x)
      · cases e
end
end T2

set_option maxRecDepth 100000
set_option maxHeartbeats 4000000
namespace T2
open PySem PySem.Spec PyProof.Rows L2
/-! ### a def of the text -/
def startD (N : List Str) (ds : List D) : Env := ds.map some ++ List.replicate (N.length - ds.length) none
def endK (Q : PQ) (E : PX) : KS := { nx := fun _ μ => Q .non μ, rt := Q, bk := fun _ _ => False, ct := fun _ _ => False, ex := fun _ => E }
theorem start_rl {K : PySem.W.Frag} {C : CT} {L F H : Hp} {μ : Mu} {N : List Str} {ds : List D} {vs : List V} (w : Wd K C L F μ H) (r : RepL K C F ds vs) : Rl K C L F (startD N ds) μ (L2.start N vs) H where
  wd := w
  len := by
    unfold startD L2.start
    rw [List.length_append, List.length_append, List.length_map, List.length_map, List.length_replicate, List.length_replicate, r.len]
  env := fun i d e => by
    unfold startD at e
    unfold L2.start
    by_cases hi : i < ds.length
    · rw [List.getElem?_append_left (by rw [List.length_map]; exact hi), List.getElem?_map] at e
      rw [List.getElem?_append_left (by rw [List.length_map, r.len]; exact hi), List.getElem?_map]
      cases q : ds[i]? with
      | none => rw [q] at e; cases e
      | some d' =>
        rw [q] at e
        cases e
        obtain ⟨v, h1, h2⟩ := r.at q
        exact ⟨v, by rw [h1]; rfl, h2⟩
    · rw [List.getElem?_append_right (by rw [List.length_map]; omega), List.getElem?_replicate] at e
      split at e <;> cases e
section
variable {P : Program} {w : World} {K : PySem.W.Frag} {mg : Str → Option Value} {base : Heap} {C : CT} {k : Nat} {G : Gam} {N ps : List Str} {x nm qual : Str} {params : Arguments} {body : List Stmt} {scope : Scope} {dvs : List V} {kws : List (Str × V)} {f : Addr} {fd : FuncData} {sp : SpD} {mv : List Str} {mr : Bool} {D0 n : Nat} {wr : WS}
theorem fnOk (F : FunD K nm qual params body scope dvs kws f fd) (S : FnScope N ps scope) (g : GamOk P w K mg base C k G) (ht : trSN G N scope mv mr D0 n none body = some wr)
    (len : ∀ ds μ Q E, sp ds μ Q E → ds.length = ps.length) (h : ∀ ds μ Q E, sp ds μ Q E → wr (endK Q E) (startD N ds) μ) : FnOk P w K mg base (L2.CX P w) (k + 1) f fd ps (liftSp K C sp) := by
  refine F.ok S (fun vs H Q E hs => ?_) fun cdv A outer s H vs Q E hr hs => ⟨upS K C (fun cls d _ H => E cls d H) wr, ?_, ?_⟩
  · obtain ⟨L, F0, μ, ds, Q0, E0, r, wd, q, _⟩ := hs
    rw [r.len]
    exact len _ _ _ _ q
  · have X : XSt C k G N none scope (cxOf (L2.CX P w) P w K mg base N qual scope f cdv A outer s H E) (fun cls d _ H => E cls d H) := {
      o := ⟨g, rfl, rfl, S.nd, by
        have := hr.un
        show (A.deeper (envOfC qual scope s.heap.objs.size f cdv)).units + 65 < cLine
        omega, fun _ => ⟨rfl, hr⟩, fun _ _ _ e => (by cases e), takes_of rfl rfl rfl rfl⟩
      fn := fun _ => rfl
      st := rfl
      fr := rfl
      po := passes_of rfl }
    exact trSN_ok n none body wr ht _ _ X
  · obtain ⟨L, F0, μ, ds, Q0, E0, r, wd, q, uq, ux⟩ := hs
    refine ⟨L, F0, startD N ds, μ, endK Q0 E0, start_rl wd r, h _ _ _ _ q, ?_⟩
    exact ⟨fun ρ' μ' q F' σ' H' s rl => uq _ _ q F' H' _ s rl.wd .ofNon, fun _ _ q => q.elim, fun _ _ q => q.elim, fun d μ' q F' H' v s w r => uq _ _ q F' H' v s w r, fun c fs ρ' μ' q F' σ' H' cls dx s rl x => ux c fs μ' q F' H' cls dx s rl.wd x⟩
/-- called with every parameter given -/
theorem FnAt.of (hm : mg x = some (.ref f)) (hk : PySem.W.keepIn K (.ref f) = true) (hb : Binds K fd ps []) (F : FnOk P w K mg base (L2.CX P w) k f fd ps (liftSp K C sp)) : FnAt P w K mg base C k x ps.length [] sp :=
  ⟨f, hm, hk, fun A outer s H us ws vs zs Q E hr e0 hK r rz h1 h2 hs => by
    cases zs with
    | cons => cases h2
    | nil =>
      cases rz
      rw [List.append_nil] at hs
      have := hb s us hK (by rw [List.append_nil, ← r.length]; exact h1)
      rw [List.append_nil] at this
      exact F.run A outer s H _ us vs Q E hr e0 this r hs⟩
/-- called with some of the parameters, by position and by name -/
theorem FnAt.ofK {m : Nat} {ks : List Str} {gv : List Value → List Value → List Value} {gV : List V → List V → List V} {gD : List D → List D} (hm : mg x = some (.ref f)) (hk : PySem.W.keepIn K (.ref f) = true) (hb : KBn K fd ps m ks gv gV)
    (hg : ∀ F ds vs zs, vs.length = m → zs.length = ks.length → RepL K C F ds (vs ++ zs) → RepL K C F (gD ds) (gV vs zs)) (F : FnOk P w K mg base (L2.CX P w) k f fd ps (liftSp K C sp)) :
    FnAt P w K mg base C k x m ks (fun ds μ Q E => sp (gD ds) μ Q E) :=
  ⟨f, hm, hk, fun A outer s H us ws vs zs Q E hr e0 hK r rz h1 h2 hs => by
    obtain ⟨L, F0, μ, ds, Q0, E0, rl, wd, q, uq, ux⟩ := hs
    exact F.run A outer s H _ _ _ Q E hr e0 (hb.to s us ws hK (by rw [← r.length]; exact h1) (by rw [← rz.length]; exact h2)) (hb.rel r rz) ⟨L, F0, μ, _, Q0, E0, hg F0 ds vs zs h1 h2 rl, wd, q, uq, ux⟩⟩
/-- .. its defaults ds behind -/
theorem FnAt.ofD {m : Nat} {dds : List V} {us0 : List Value} {des : List D} (hm : mg x = some (.ref f)) (hk : PySem.W.keepIn K (.ref f) = true) (hv : Vals dds us0) (hb : Binds K fd ps us0) (hn : m + us0.length = ps.length)
    (hg : ∀ F, RepL K C F des dds) (F : FnOk P w K mg base (L2.CX P w) k f fd ps (liftSp K C sp)) : FnAt P w K mg base C k x m [] (fun ds μ Q E => sp (ds ++ des) μ Q E) :=
  ⟨f, hm, hk, fun A outer s H us ws vs zs Q E hr e0 hK r rz h1 h2 hs => by
    cases zs with
    | cons => cases h2
    | nil =>
      cases rz
      rw [List.append_nil] at hs
      obtain ⟨L, F0, μ, ds, Q0, E0, rl, wd, q, uq, ux⟩ := hs
      exact F.run A outer s H _ _ _ Q E hr e0 (hb s us hK (by rw [List.length_append, ← r.length, h1]; exact hn)) (r.append hv) ⟨L, F0, μ, _, Q0, E0, rl.append (hg F0), wd, q, uq, ux⟩⟩
/-- nobody may call it -/
theorem FnAt.no {ks : List Str} (hm : mg x = some (.ref f)) (hk : PySem.W.keepIn K (.ref f) = true) : FnAt P w K mg base C k x n ks (fun _ _ _ _ => False) :=
  ⟨f, hm, hk, fun A outer s H us ws vs zs Q E hr e0 hK r rz h1 h2 hs => by
    obtain ⟨L, F0, μ, ds, Q0, E0, rl, wd, q, uq, ux⟩ := hs
    exact q.elim⟩
theorem FnAt.imp {ks : List Str} {sp' : SpD} (h : FnAt P w K mg base C k x n ks sp) (i : ∀ ds μ Q E, sp' ds μ Q E → sp ds μ Q E) : FnAt P w K mg base C k x n ks sp' := by
  obtain ⟨f, h1, h2, h3⟩ := h.ex
  refine ⟨f, h1, h2, fun A outer s H us ws vs zs Q E hr e0 hK r rz l1 l2 hs => ?_⟩
  obtain ⟨L, F0, μ, ds, Q0, E0, rl, wd, q, uq, ux⟩ := hs
  exact h3 A outer s H us ws vs zs Q E hr e0 hK r rz l1 l2 ⟨L, F0, μ, ds, Q0, E0, rl, wd, i _ _ _ _ q, uq, ux⟩
theorem GamOk.mono {j : Nat} (g : GamOk P w K mg base C j G) (h : j ≤ k) : GamOk P w K mg base C k G :=
  ⟨fun e he => (g.fn e he).mono h, g.con, g.free, fun q hq => by obtain ⟨i, hi, M⟩ := g.rs q hq; exact ⟨i, Nat.le_trans hi h, M⟩, g.sub, g.xc⟩
end
end T2

set_option maxRecDepth 100000
set_option maxHeartbeats 4000000
namespace T2
open PySem PySem.Spec PyProof.Rows L2
/-! ### how one goes through a reading -/
section
variable {i j : Nat} {d d2 x y : D} {ρ : Env} {μ : Mu} {Q : PQ} {E : PX} {wa wb wc we : WE} {was wks : WA} {wt wt2 : WT} {w w2 : WS} {k : KS}
theorem i_var (h : ρ[i]? = some (some d)) (q : Q d μ) : wVar i ρ μ Q E := ⟨d, h, q⟩
theorem i_c (q : Q d μ) : wC d ρ μ Q E := q
theorem i_op {g : G2} (h : wa ρ μ (fun x μ1 => wb ρ μ1 (fun y μ2 => g x y μ2 Q) E) E) : wOp g wa wb ρ μ Q E := h
theorem i_chain {g g' : G2} (h : wa ρ μ (fun x μ1 => wb ρ μ1 (fun y μ2 => g x y μ2 fun z μ3 => ∃ k, z = .bl k ∧ (k = true → wc ρ μ3 (fun u μ4 => g' y u μ4 Q) E) ∧ (k = false → Q (.bl false) μ3)) E) E) : wChain g g' wa wb wc ρ μ Q E := h
theorem i_un {g : G1} (h : wa ρ μ (fun x μ1 => g x μ1 Q) E) : wUn g wa ρ μ Q E := h
theorem i_cb {g : GC} (h : was ρ μ (fun ds μ1 => g ds μ1 Q) E) : wCB g was ρ μ Q E := h
theorem i_call {n : Nat} {sp : SpD} (h : was ρ μ (fun ds μ1 => ds.length = n ∧ sp ds μ1 Q E) E) : wCall n sp was ρ μ Q E := h
theorem i_callK {n m : Nat} {sp : SpD} (h : was ρ μ (fun ds μ1 => wks ρ μ1 (fun es μ2 => ds.length = n ∧ es.length = m ∧ sp (ds ++ es) μ2 Q E) E) E) : wCallK n m sp was wks ρ μ Q E := h
theorem i_nil {Q : List D → Mu → Prop} (q : Q [] μ) : wNil ρ μ Q E := q
theorem i_cons {Q : List D → Mu → Prop} (h : wa ρ μ (fun x μ1 => was ρ μ1 (fun xs μ2 => Q (x :: xs) μ2) E) E) : wCons wa was ρ μ Q E := h
theorem i_tup (h : was ρ μ (fun ds μ' => ds.length ≤ sizeLine ∧ Q (.tup ds) μ') E) : wTup was ρ μ Q E := h
theorem i_lst (h : was ρ μ (fun ds μ' => ds.length ≤ sizeLine ∧ Q (.lst ds) μ') E) : wLst was ρ μ Q E := h
theorem i_lstM (h : was ρ μ (fun ds μ' => ds.length ≤ sizeLine ∧ ∀ a, μ' a = none → Q (.raw a) (mset μ' a (.lst ds))) E) : wLstM was ρ μ Q E := h
theorem i_tru {Q : Bool → Mu → Prop} (h : we ρ μ (fun d μ' => ∃ b, truthOk μ' d b ∧ Q b μ') E) : wTru we ρ μ Q E := h
theorem i_tb {Q : Bool → Mu → Prop} (h : we ρ μ (fun d μ' => ∃ b, d = .bl b ∧ Q b μ') E) : wTB we ρ μ Q E := h
theorem i_bl {P : Bool → Prop} {b : Bool} (q : P b) : ∃ b', D.bl b = .bl b' ∧ P b' := ⟨b, rfl, q⟩
theorem i_notT {Q : Bool → Mu → Prop} (h : wt ρ μ (fun b μ' => Q (!b) μ') E) : wNotT wt ρ μ Q E := h
theorem i_andT {Q : Bool → Mu → Prop} (h : wt ρ μ (fun b μ' => (b = true → wt2 ρ μ' Q E) ∧ (b = false → Q false μ')) E) : wAndT wt wt2 ρ μ Q E := h
theorem i_orT {Q : Bool → Mu → Prop} (h : wt ρ μ (fun b μ' => (b = true → Q true μ') ∧ (b = false → wt2 ρ μ' Q E)) E) : wOrT wt wt2 ρ μ Q E := h
theorem i_not (h : wa ρ μ (fun x μ1 => ∃ k, truthOk μ1 x k ∧ Q (.bl (!k)) μ1) E) : wNot wa ρ μ Q E := h
theorem i_and (h : wa ρ μ (fun x μ1 => ∃ k, truthOk μ1 x k ∧ (k = true → wb ρ μ1 Q E) ∧ (k = false → Q x μ1)) E) : wAnd wa wb ρ μ Q E := h
theorem i_or (h : wa ρ μ (fun x μ1 => ∃ k, truthOk μ1 x k ∧ (k = true → Q x μ1) ∧ (k = false → wb ρ μ1 Q E)) E) : wOr wa wb ρ μ Q E := h
theorem i_if (h : wt ρ μ (fun k μ1 => (k = true → wa ρ μ1 Q E) ∧ (k = false → wb ρ μ1 Q E)) E) : wIf wt wa wb ρ μ Q E := h
theorem i_isi {t : Ty} (h : wa ρ μ (fun d μ1 => ∃ s, tyn μ1 d = some s ∧ Q (.bl (isTy s t)) μ1) E) : wIsi t wa ρ μ Q E := h
theorem i_mt {T : String} {g : GM} (h : wa ρ μ (fun x μ1 => tym μ1 x = some T ∧ was ρ μ1 (fun xs μ2 => g x xs μ2 Q) E) E) : wMt T g wa was ρ μ Q E := h
theorem i_yes {Q : Bool → Mu → Prop} (q : Q true μ) : wYes ρ μ Q E := q
/-! tests decided -/
theorem i_dec {p : Prop} [Decidable p] {A B : Prop} (h1 : p → A) (h2 : ¬p → B) : (decide p = true → A) ∧ (decide p = false → B) := ⟨fun h => h1 (of_decide_eq_true h), fun h => h2 (of_decide_eq_false h)⟩
theorem i_ndec {p : Prop} [Decidable p] {A B : Prop} (h1 : ¬p → A) (h2 : p → B) : ((!decide p) = true → A) ∧ ((!decide p) = false → B) := by
  by_cases h : p
  · rw [decide_eq_true h]; exact ⟨fun z => (by cases z), fun _ => h2 h⟩
  · rw [decide_eq_false h]; exact ⟨fun _ => h1 h, fun z => (by cases z)⟩
theorem i_T {A B : Prop} (h : A) : (true = true → A) ∧ (true = false → B) := ⟨fun _ => h, fun z => (by cases z)⟩
theorem i_F {A B : Prop} (h : B) : (false = true → A) ∧ (false = false → B) := ⟨fun z => (by cases z), fun _ => h⟩
theorem i_Tv {b : Bool} {A B : Prop} (e : b = true) (h : A) : (b = true → A) ∧ (b = false → B) := ⟨fun _ => h, fun z => by rw [e] at z; cases z⟩
theorem i_Fv {b : Bool} {A B : Prop} (e : b = false) (h : B) : (b = true → A) ∧ (b = false → B) := ⟨fun z => (by rw [e] at z; cases z), fun _ => h⟩
theorem i_trB {b : Bool} {P : Bool → Prop} (q : P b) : ∃ k, truthOk μ (.bl b) k ∧ P k := ⟨b, ⟨rfl, fun s h => (by cases h)⟩, q⟩
/-! statements -/
theorem i_seq (h : w { nx := fun ρ' μ' => w2 k ρ' μ', rt := k.rt, bk := k.bk, ct := k.ct, ex := k.ex } ρ μ) : wSeq w w2 k ρ μ := h
theorem i_next (h : k.nx ρ μ) : wNext k ρ μ := h
theorem i_asg (h : we ρ μ (fun d μ1 => k.nx (ρ.set i (some d)) μ1) (k.ex ρ)) : wAsg i we k ρ μ := h
theorem i_drop (h : we ρ μ (fun _ μ1 => k.nx ρ μ1) (k.ex ρ)) : wDrop we k ρ μ := h
theorem i_ret (h : we ρ μ (fun d μ1 => ∃ d' μ', Frz μ1 d μ' d' ∧ k.rt d' μ') (k.ex ρ)) : wRet we k ρ μ := h
theorem i_rt {rt : PQ} (q : rt d μ) : ∃ d' μ', Frz μ d μ' d' ∧ rt d' μ' := ⟨d, μ, Frz.refl μ d, q⟩
theorem i_ifS (h : wt ρ μ (fun b μ1 => (b = true → w k ρ μ1) ∧ (b = false → w2 k ρ μ1)) (k.ex ρ)) : wIfS wt w w2 k ρ μ := h
theorem i_asgG {g : WG} (h : we ρ μ (fun d μ1 => g d ρ μ1 fun ρ1 => k.nx ρ1 μ1) (k.ex ρ)) : wAsgG g we k ρ μ := h
theorem i_gT {is : List Nat} {ds : List D} {Q : Env → Prop} (hl : ds.length = is.length) (q : Q (setAll is ds ρ)) : wgT is (.tup ds) ρ μ Q := ⟨ds, rfl, hl, q⟩
theorem i_set {g : GSet} (h : we ρ μ (fun z μ1 => wa ρ μ1 (fun x μ2 => wb ρ μ2 (fun y μ3 => g x y z μ3 fun μ4 => k.nx ρ μ4) (k.ex ρ)) (k.ex ρ)) (k.ex ρ)) : wSet g wa wb we k ρ μ := h
theorem i_for {wi : WI} {g : WG} (h : wi ρ μ (fun ds gd μ1 => forLoop gd g w k ds ρ μ1) (k.ex ρ)) : wFor wi g w k ρ μ := h
/-! values -/
theorem i_addI {a b : Int} (q : Q (.int (a + b)) μ) : gAdd (.int a) (.int b) μ Q := .inl ⟨a, b, rfl, rfl, q⟩
theorem i_subI {a b : Int} (q : Q (.int (a - b)) μ) : gSub (.int a) (.int b) μ Q := ⟨a, b, rfl, rfl, q⟩
theorem i_mulI {a b : Int} (c : CMulX a b) (q : Q (.int (a * b)) μ) : gMul (.int a) (.int b) μ Q := ⟨a, b, rfl, rfl, c, q⟩
theorem i_modI {a b : Int} (c : 0 < b) (q : Q (.int (a % b)) μ) : gMod (.int a) (.int b) μ Q := ⟨a, b, rfl, rfl, c, q⟩
theorem i_divI {a b : Int} (c : CDivW a b) (q : Q (.int (a / b)) μ) : gDiv (.int a) (.int b) μ Q := ⟨a, b, rfl, rfl, c, q⟩
theorem i_powI {a b : Int} (c : CPow a b) (q : Q (.int (a ^ b.toNat)) μ) : gPow (.int a) (.int b) μ Q := ⟨a, b, rfl, rfl, c, q⟩
theorem i_negI {a : Int} (q : Q (.int (-a)) μ) : gNeg (.int a) μ Q := ⟨a, rfl, q⟩
theorem i_eqI {a b : Int} (q : Q (.bl (decide (a = b))) μ) : gEq (.int a) (.int b) μ Q := ⟨.int a, .int b, rfl, rfl, rfl, by
  have e : decide (V.int a = V.int b) = decide (a = b) := by
    by_cases h : a = b
    · rw [h, decide_eq_true rfl, decide_eq_true rfl]
    · rw [decide_eq_false h, decide_eq_false fun z => h (by cases z; rfl)]
  rw [e]; exact q⟩
theorem i_neI {a b : Int} (q : Q (.bl (!decide (a = b))) μ) : gNe (.int a) (.int b) μ Q := ⟨.int a, .int b, rfl, rfl, rfl, by
  have e : decide (V.int a = V.int b) = decide (a = b) := by
    by_cases h : a = b
    · rw [h, decide_eq_true rfl, decide_eq_true rfl]
    · rw [decide_eq_false h, decide_eq_false fun z => h (by cases z; rfl)]
  rw [e]; exact q⟩
theorem i_ltI {a b : Int} (q : Q (.bl (decide (a < b))) μ) : gLt (.int a) (.int b) μ Q := .inl ⟨a, b, rfl, rfl, q⟩
theorem i_leI {a b : Int} (q : Q (.bl (decide (a ≤ b))) μ) : gLe (.int a) (.int b) μ Q := .inl ⟨a, b, rfl, rfl, q⟩
theorem i_gtI {a b : Int} (q : Q (.bl (decide (b < a))) μ) : gGt (.int a) (.int b) μ Q := .inl ⟨a, b, rfl, rfl, q⟩
theorem i_geI {a b : Int} (q : Q (.bl (decide (b ≤ a))) μ) : gGe (.int a) (.int b) μ Q := .inl ⟨a, b, rfl, rfl, q⟩
theorem i_is (q : Q (.bl (isNon x)) μ) : gIs x .non μ Q := ⟨rfl, q⟩
theorem i_isN (q : Q (.bl (!isNon x)) μ) : gIsNot x .non μ Q := ⟨rfl, q⟩
theorem i_ix {ds : List D} {a : Int} (h1 : getS μ x = some ds) (h2 : atI ds a = some d) (q : Q d μ) : gIx x (.int a) μ Q := .inl ⟨ds, a, d, h1, rfl, h2, q⟩
theorem i_ixK {ks : List (Key × D)} {kk : Key} (h1 : getK μ x = some ks) (h0 : keyOf y = some kk) (h2 : look ks kk = some d) (q : Q d μ) : gIx x y μ Q := .inr (.inl ⟨ks, kk, d, h1, h0, h2, q⟩)
theorem i_setL {a : Addr} {ds : List D} {z : D} {n : Int} {j : Nat} {Q : Mu → Prop} (h1 : μ a = some (.lst ds)) (h2 : ixN ds.length n = some j) (q : Q (mset μ a (.lst (ds.set j z)))) : gSet (.raw a) (.int n) z μ Q := .inl ⟨a, ds, n, j, rfl, h1, rfl, h2, q⟩
theorem i_setK {a : Addr} {ks : List (Key × D)} {kk : Key} {z : D} {Q : Mu → Prop} (h1 : μ a = some (.dct ks)) (h0 : keyOf y = some kk) (h2 : ks.length < sizeLine) (q : Q (mset μ a (.dct (kput ks kk z)))) : gSet (.raw a) y z μ Q := .inr ⟨a, ks, kk, rfl, h1, h0, h2, q⟩
theorem i_lenL {ds : List D} (h : getS μ x = some ds) (q : Q (.int ds.length) μ) : gLen [x] μ Q := ⟨x, rfl, .inl ⟨ds, h, q⟩⟩
theorem i_absI {a : Int} (q : Q (.int (if a < 0 then -a else a)) μ) : gAbs [.int a] μ Q := ⟨a, rfl, q⟩
theorem i_intI {a : Int} (q : Q (.int a) μ) : gInt [.int a] μ Q := .inl ⟨a, rfl, q⟩
theorem i_maxI {a b : Int} (q : Q (.int (if b > a then b else a)) μ) : gMax [.int a, .int b] μ Q := ⟨a, b, rfl, q⟩
theorem i_minI {a b : Int} (q : Q (.int (if b < a then b else a)) μ) : gMin [.int a, .int b] μ Q := ⟨a, b, rfl, q⟩
theorem i_rev {ds : List D} (q : Q (.lst ds.reverse) μ) : gRev (.lst ds) μ Q := ⟨ds, rfl, q⟩
theorem i_tuple {ds : List D} (h : getS μ x = some ds) (q : Q (.tup ds) μ) : gTuple [x] μ Q := ⟨x, ds, rfl, h, q⟩
theorem i_listM {ds : List D} (h : getS μ x = some ds) (q : ∀ a, μ a = none → Q (.raw a) (mset μ a (.lst ds))) : gListM [x] μ Q := ⟨x, ds, rfl, h, q⟩
theorem i_modG {a b : Int} (c : 0 < b) (q : ∀ r : Int, 0 ≤ r → r < b → Q (.int r) μ) : gMod (.int a) (.int b) μ Q := i_modI c (q _ (Int.emod_nonneg _ (by omega)) (Int.emod_lt_of_pos _ c))
theorem i_divG {a b : Int} (c : CDivW a b) (h0 : 0 ≤ a) (q : ∀ r : Int, 0 ≤ r → r ≤ a → Q (.int r) μ) : gDiv (.int a) (.int b) μ Q := i_divI c (q _ (Int.ediv_nonneg h0 (by have := c.1; omega)) (by
  have hb : 0 < b := c.1
  exact Int.ediv_le_self b h0))
theorem i_absG {a : Int} (q : ∀ r : Int, 0 ≤ r → r.natAbs = a.natAbs → Q (.int r) μ) : gAbs [.int a] μ Q := i_absI (q _ (by split <;> omega) (by split <;> omega))
theorem getS_raw {a : Addr} {ds : List D} (h : μ a = some (.lst ds)) : getS μ (.raw a) = some ds := by
  simp only [getS, getL, h]
theorem i_revM {a : Addr} {ds : List D} (h : μ a = some (.lst ds)) (q : Q (.lst ds.reverse) μ) : gRev (.raw a) μ Q := ⟨ds, getS_raw h, q⟩
theorem getK_raw {a : Addr} {ds : List (Key × D)} (h : μ a = some (.dct ds)) : getK μ (.raw a) = some ds := by
  simp only [getK, h]
theorem i_ixS {a : Addr} {ds : List D} {n : Int} (h : μ a = some (.lst ds)) (h2 : atI ds n = some d) (q : Q d μ) : gIx (.raw a) (.int n) μ Q := i_ix (getS_raw h) h2 q
theorem i_ixF {ds : List D} {n : Int} (h2 : atI ds n = some d) (q : Q d μ) : gIx (.lst ds) (.int n) μ Q := i_ix rfl h2 q
theorem i_ixT {ds : List D} {n : Int} (h2 : atI ds n = some d) (q : Q d μ) : gIx (.tup ds) (.int n) μ Q := i_ix rfl h2 q
theorem i_lenF {ds : List D} (q : Q (.int ds.length) μ) : gLen [.lst ds] μ Q := i_lenL rfl q
theorem i_lenS {a : Addr} {ds : List D} (h : μ a = some (.lst ds)) (q : Q (.int ds.length) μ) : gLen [.raw a] μ Q := i_lenL (getS_raw h) q
theorem atI_ok {α : Type} {l : List α} {i : Int} (h0 : 0 ≤ i) (h1 : i < l.length) : ∃ (h : i.toNat < l.length), atI l i = some (l[i.toNat]'h) := by
  have h : i.toNat < l.length := by omega
  refine ⟨h, ?_⟩
  unfold atI ixN
  rw [if_pos h0, if_pos h1]
  exact List.getElem?_eq_getElem h
theorem i_size {xs : List D} {A : Prop} (h : Nat.ble xs.length 1000 = true) (q : A) : xs.length ≤ sizeLine ∧ A := ⟨Nat.le_trans (Nat.le_of_ble_eq_true h) (by decide), q⟩
theorem i_powC {a b : Int} (h0 : 0 ≤ b) (h1 : b ≤ 1000000) (h2 : a.natAbs < 2 ^ 64) (q : Q (.int (a ^ b.toNat)) μ) : gPow (.int a) (.int b) μ Q := i_powI ⟨h0, h1, h2⟩ q
theorem p10_18 : (10 : Int) ^ (18 : Int).toNat = 1000000000000000000 := by decide
theorem p10_20 : (10 : Int) ^ (20 : Int).toNat = 100000000000000000000 := by decide
theorem i_raise {c : Str} {fs : List Str} (h : was ρ μ (fun ds μ1 => ds.length = fs.length ∧ k.ex ρ c (fs.zip ds).reverse μ1) (k.ex ρ)) : wRaise c fs was k ρ μ := h
theorem i_try {is : Str → Bool} {ws : Addr → Addr → Option Addr → WS} (h : w { nx := k.nx, rt := k.rt, bk := k.bk, ct := k.ct, ex := fun ρ' c fs μ' =>
  (is c = true → ∀ a ca dx, ws a ca dx { nx := fun ρ2 μ2 => k.nx (ρ2.set i none) μ2, rt := k.rt, bk := fun ρ2 μ2 => k.bk (ρ2.set i none) μ2, ct := fun ρ2 μ2 => k.ct (ρ2.set i none) μ2, ex := fun _ => wNever } (ρ'.set i (some (.exc a ca dx c fs))) μ') ∧
  (is c = false → k.ex ρ' c fs μ') } ρ μ) : wTry is i w ws k ρ μ := h
theorem i_xf {a ca : Addr} {dx : Option Addr} {f : Str} (h : we ρ μ (fun d μ1 => ∃ c fs v, d = .exc a ca dx c fs ∧ fs.lookup f = some v ∧ Q v μ1) E) : wXf a ca dx f we ρ μ Q E := h
theorem i_xfv {a ca : Addr} {dx : Option Addr} {c f : Str} {fs : FE} {v : D} {P : D → Prop} (h : fs.lookup f = some v) (q : P v) : ∃ c' fs' v', D.exc a ca dx c fs = .exc a ca dx c' fs' ∧ fs'.lookup f = some v' ∧ P v' := ⟨c, fs, v, rfl, h, q⟩
theorem i_xi {a ca : Addr} {dx : Option Addr} {is : Str → Bool} (h : we ρ μ (fun d μ1 => ∃ c fs, d = .exc a ca dx c fs ∧ Q (.bl (is c)) μ1) E) : wXi a ca dx is we ρ μ Q E := h
theorem i_xiv {a ca : Addr} {dx : Option Addr} {c : Str} {fs : FE} {P : Str → Prop} (q : P c) : ∃ c' fs', D.exc a ca dx c fs = .exc a ca dx c' fs' ∧ P c' := ⟨c, fs, rfl, q⟩
theorem i_isv {P : String → Prop} {s : String} (h : tyn μ d = some s) (q : P s) : ∃ s, tyn μ d = some s ∧ P s := ⟨s, h, q⟩
/-! what is given up at a return -/
theorem less_new {a : Addr} {m : MO} (h : μ a = none) : Less μ (mset μ a m) := fun b m' e => by
  have : b ≠ a := fun z => by subst z; rw [h] at e; cases e
  rw [mset_ne this]; exact e
theorem less_put {μ0 : Mu} {a : Addr} {m : MO} (h : Less μ0 μ) (hn : μ0 a = none) : Less μ0 (mset μ a m) := fun b m' e => by
  have : b ≠ a := fun z => by subst z; rw [hn] at e; cases e
  rw [mset_ne this]; exact h b m' e
theorem less_none {μ0 : Mu} {a : Addr} (h : Less μ0 μ) (hn : μ a = none) : μ0 a = none := by
  cases e : μ0 a with
  | none => rfl
  | some m => have := h a m e; rw [hn] at this; cases this
theorem Less.refl (μ : Mu) : Less μ μ := fun _ _ h => h
theorem i_back {μ0 : Mu} {rt : PQ} (h : Less μ0 μ) (q : rt d μ0) : ∃ d' μ', Frz μ d μ' d' ∧ rt d' μ' := ⟨d, μ0, Frz.less h, q⟩
theorem i_backL {μ0 : Mu} {rt : PQ} {a : Addr} {ds : List D} (h : Less μ0 μ) (hn : μ0 a = none) (ha : μ a = some (.lst ds)) (q : rt (.lst ds) μ0) : ∃ d' μ', Frz μ (.raw a) μ' d' ∧ rt d' μ' := ⟨.lst ds, μ0, Frz.lst ha fun b m e => ⟨h b m e, fun z => by subst z; rw [hn] at e; cases e⟩, q⟩
theorem rng_len {lo : Int} {n : Nat} : (rngD lo n).length = n := by unfold rngD; rw [List.length_map, List.length_range]
theorem rng_get {lo : Int} {n i : Nat} (h : i < (rngD lo n).length) : (rngD lo n)[i] = D.int (lo + (i : Int)) := by
  have e : (rngD lo n)[i]? = some (D.int (lo + (i : Int))) := by
    rw [rng_len] at h
    unfold rngD
    rw [List.getElem?_map, List.getElem?_range h]
    rfl
  rw [List.getElem?_eq_getElem h] at e
  exact Option.some.inj e
theorem rng_drop {lo : Int} {n i : Nat} (h : i < n) : (rngD lo n).drop i = D.int (lo + (i : Int)) :: (rngD lo n).drop (i + 1) := by
  rw [List.drop_eq_getElem_cons (by rw [rng_len]; exact h), rng_get]
theorem rng_nil {lo : Int} {n i : Nat} (h : [] = (rngD lo n).drop i) : n ≤ i := by
  have := congrArg List.length h
  rw [List.length_drop, rng_len, List.length_nil] at this
  omega
theorem rng_cons {lo : Int} {n i : Nat} {d : D} {ds : List D} (h : d :: ds = (rngD lo n).drop i) : i < n ∧ d = .int (lo + (i : Int)) ∧ ds = (rngD lo n).drop (i + 1) := by
  have := congrArg List.length h
  rw [List.length_drop, rng_len, List.length_cons] at this
  have hi : i < n := by omega
  rw [rng_drop hi] at h
  exact ⟨hi, (List.cons.inj h).1, (List.cons.inj h).2⟩
theorem i_dictM {ps : List (WE × WE)} {ρ : Env} {μ : Mu} {Q : PQ} {E : PX} (h : wPairs ps ρ μ (fun xs μ1 => ∃ ks, keysOf xs = some ks ∧ ks.length ≤ 15 ∧ ∀ a, μ1 a = none → Q (.raw a) (mset μ1 a (.dct (kmerge [] ks)))) E) : wDictM ps ρ μ Q E := h
theorem i_dict {ps : List (WE × WE)} {ρ : Env} {μ : Mu} {Q : PQ} {E : PX} (h : wPairs ps ρ μ (fun xs μ1 => ∃ ks, keysOf xs = some ks ∧ ks.length ≤ 15 ∧ Q (.dct (kmerge [] ks)) μ1) E) : wDict ps ρ μ Q E := h
theorem i_p0 {ρ : Env} {μ : Mu} {Q : List (D × D) → Mu → Prop} {E : PX} (q : Q [] μ) : wPairs [] ρ μ Q E := q
theorem i_p1 {k v : WE} {r : List (WE × WE)} {ρ : Env} {μ : Mu} {Q : List (D × D) → Mu → Prop} {E : PX} (h : k ρ μ (fun x μ1 => v ρ μ1 (fun y μ2 => wPairs r ρ μ2 (fun ps μ3 => Q ((x, y) :: ps) μ3) E) E) E) : wPairs ((k, v) :: r) ρ μ Q E := h
theorem i_eqB {a b : Bool} {μ : Mu} {Q : PQ} (q : Q (.bl (decide (a = b))) μ) : gEq (.bl a) (.bl b) μ Q := ⟨.bl a, .bl b, rfl, rfl, rfl, by
  have e : decide (V.bl a = V.bl b) = decide (a = b) := by cases a <;> cases b <;> rfl
  rw [e]; exact q⟩
theorem i_eqT {a b : Str} {μ : Mu} {Q : PQ} (q : Q (.bl (decide (a = b))) μ) : gEq (.str a) (.str b) μ Q := ⟨.str a, .str b, rfl, rfl, rfl, by
  have e : decide (V.str a = V.str b) = decide (a = b) := by
    by_cases h : a = b
    · rw [h, decide_eq_true rfl, decide_eq_true rfl]
    · rw [decide_eq_false h, decide_eq_false fun z => h (by cases z; rfl)]
  rw [e]; exact q⟩
theorem i_neT {a b : Str} {μ : Mu} {Q : PQ} (q : Q (.bl (!decide (a = b))) μ) : gNe (.str a) (.str b) μ Q := ⟨.str a, .str b, rfl, rfl, rfl, by
  have e : decide (V.str a = V.str b) = decide (a = b) := by
    by_cases h : a = b
    · rw [h, decide_eq_true rfl, decide_eq_true rfl]
    · rw [decide_eq_false h, decide_eq_false fun z => h (by cases z; rfl)]
  rw [e]; exact q⟩
theorem tymL {a : Addr} {ds : List D} (h : μ a = some (.lst ds)) : tym μ (.raw a) = some "list" := by simp only [tym, h]
theorem tymK {a : Addr} {ds : List (Key × D)} (h : μ a = some (.dct ds)) : tym μ (.raw a) = some "dict" := by simp only [tym, h]
theorem i_lcC {gd : Mu → Prop} {g : WG} {Q : List D → Mu → Prop} {ds acc : List D} (h : gd μ)
    (q : g d ρ μ fun ρ1 => wt ρ1 μ (fun k μ1 => (k = true → we ρ1 μ1 (fun y μ2 => acc.length < sizeLine ∧ lcLoop gd g wt we ρ Q ds (acc ++ [y]) μ2) wNever) ∧ (k = false → lcLoop gd g wt we ρ Q ds acc μ1)) wNever) : lcLoop gd g wt we ρ Q (d :: ds) acc μ := ⟨h, q⟩
theorem i_lcN {gd : Mu → Prop} {g : WG} {Q : List D → Mu → Prop} {acc : List D} (h : gd μ) (q : Q acc μ) : lcLoop gd g wt we ρ Q [] acc μ := ⟨h, q⟩
theorem i_forC {gd : Mu → Prop} {g : WG} {ds : List D} (h : gd μ) (q : g d ρ μ fun ρ1 => w { nx := forLoop gd g w k ds, ct := forLoop gd g w k ds, bk := k.nx, rt := k.rt, ex := k.ex } ρ1 μ) : forLoop gd g w k (d :: ds) ρ μ := ⟨h, q⟩
theorem i_forN {gd : Mu → Prop} {g : WG} (h : gd μ) (q : k.nx ρ μ) : forLoop gd g w k [] ρ μ := ⟨h, q⟩
theorem i_sz2 {xs : List D} {A : Prop} (h : Nat.ble xs.length 1000 = true) (q : A) : xs.length < sizeLine ∧ A := ⟨Nat.lt_of_le_of_lt (Nat.le_of_ble_eq_true h) (by decide), q⟩
/-- a cut: what stands behind w is gone through once -/
theorem i_cut (J : Env → Mu → Prop) (h2 : ∀ ρ' μ', J ρ' μ' → w2 k ρ' μ') (h1 : ∀ nx : Env → Mu → Prop, (∀ ρ' μ', J ρ' μ' → nx ρ' μ') → w { nx := nx, rt := k.rt, bk := k.bk, ct := k.ct, ex := k.ex } ρ μ) : wSeq w w2 k ρ μ := h1 _ h2
/-- two things that may change: a, which stood before, n, which is new -/
structure Two (μ : Mu) (a n : Addr) (μ' : Mu) (o o2 : MO) : Prop where
  ne : n ≠ a
  hn : μ n = none
  h1 : μ' a = some o
  h2 : μ' n = some o2
  h3 : ∀ b m, μ b = some m → b ≠ a → μ' b = some m
theorem Two.new {μ : Mu} {a n : Addr} {o0 o o2 : MO} (h : μ a = some o0) (hn : (mset μ a o) n = none) : Two μ a n (mset (mset μ a o) n o2) o o2 := by
  have ne : n ≠ a := fun z => by subst z; rw [mset_same] at hn; cases hn
  rw [mset_ne ne] at hn
  exact ⟨ne, hn, by rw [mset_ne ne.symm, mset_same], mset_same, fun b m e hb => by
    have : b ≠ n := fun z => by subst z; rw [hn] at e; cases e
    rw [mset_ne this, mset_ne hb]; exact e⟩
theorem Two.a {μ μ' : Mu} {a n : Addr} {o o2 : MO} (T : Two μ a n μ' o o2) (o' : MO) : Two μ a n (mset μ' a o') o' o2 :=
  ⟨T.ne, T.hn, mset_same, by rw [mset_ne T.ne]; exact T.h2, fun b m e hb => by rw [mset_ne hb]; exact T.h3 b m e hb⟩
theorem Two.n {μ μ' : Mu} {a n : Addr} {o o2 : MO} (T : Two μ a n μ' o o2) (o' : MO) : Two μ a n (mset μ' n o') o o' :=
  ⟨T.ne, T.hn, by rw [mset_ne T.ne.symm]; exact T.h1, mset_same, fun b m e hb => by
    have : b ≠ n := fun z => by subst z; rw [T.hn] at e; cases e
    rw [mset_ne this]; exact T.h3 b m e hb⟩
theorem Two.less {μ μ' : Mu} {a n : Addr} {o o2 : MO} (T : Two μ a n μ' o o2) : Less (mset μ a o) μ' := fun b m e => by
  by_cases hb : b = a
  · subst hb; rw [mset_same] at e; cases e; exact T.h1
  · rw [mset_ne hb] at e; exact T.h3 b m e hb
theorem i_setT {μ μ' : Mu} {a n : Addr} {o : MO} {L : List D} {i : Int} {j : Nat} {z : D} {P : Mu → Prop} (T : Two μ a n μ' o (.lst L)) (hj : ixN L.length i = some j) (q : ∀ μ3, Two μ a n μ3 o (.lst (L.set j z)) → P μ3) : gSet (.raw n) (.int i) z μ' P :=
  i_setL T.h2 hj (q _ (T.n _))
theorem i_tryM {cl : List ClD} (h : w { nx := k.nx, rt := k.rt, bk := k.bk, ct := k.ct, ex := exM k cl } ρ μ) : wTryM cl w k ρ μ := h
theorem i_exC {is : Str → Bool} {ws : Addr → Addr → Option Addr → WS} {r : List ClD} {c : Str} {fs : FE} (h : (is c = true → ∀ a ca dx, ws a ca dx { nx := fun ρ2 μ2 => k.nx (ρ2.set i none) μ2, rt := k.rt, bk := fun ρ2 μ2 => k.bk (ρ2.set i none) μ2, ct := fun ρ2 μ2 => k.ct (ρ2.set i none) μ2, ex := fun _ => wNever } (ρ.set i (some (.exc a ca dx c fs))) μ) ∧
    (is c = false → exM k r ρ c fs μ)) : exM k ((is, i, ws) :: r) ρ c fs μ := h
theorem i_exN {c : Str} {fs : FE} (h : k.ex ρ c fs μ) : exM k [] ρ c fs μ := h
theorem i_isvL {P : String → Prop} {a : Addr} {xs : List D} (h : μ a = some (.lst xs)) (q : P "list") : ∃ s, tyn μ (.raw a) = some s ∧ P s := ⟨"list", by simp only [tyn, h], q⟩
/-! a loop by an invariant -/
theorem forLoop_inv {gd : Mu → Prop} {g : WG} (I : List D → Env → Mu → Prop) (hg : ∀ ds ρ μ, I ds ρ μ → gd μ) (hn : ∀ ρ μ, I [] ρ μ → k.nx ρ μ)
    (hs : ∀ d ds ρ μ, I (d :: ds) ρ μ → ∀ nx : Env → Mu → Prop, (∀ ρ' μ', I ds ρ' μ' → nx ρ' μ') → g d ρ μ fun ρ1 => w { nx := nx, ct := nx, bk := k.nx, rt := k.rt, ex := k.ex } ρ1 μ) : ∀ ds ρ μ, I ds ρ μ → forLoop gd g w k ds ρ μ
  | [], ρ, μ, h => ⟨hg _ _ _ h, hn _ _ h⟩
  | d :: ds, ρ, μ, h => ⟨hg _ _ _ h, hs d ds ρ μ h _ fun ρ' μ' h' => forLoop_inv I hg hn hs ds ρ' μ' h'⟩
/-- a comprehension by an invariant -/
theorem lcLoop_inv {gd : Mu → Prop} {g : WG} {tt : WT} {te : WE} {ρ : Env} {Q : List D → Mu → Prop} (I : List D → List D → Mu → Prop) (hg : ∀ ds acc μ, I ds acc μ → gd μ) (hn : ∀ acc μ, I [] acc μ → Q acc μ)
    (hs : ∀ d ds acc μ, I (d :: ds) acc μ → ∀ Z : List D → Mu → Prop, (∀ acc' μ', I ds acc' μ' → Z acc' μ') → g d ρ μ fun ρ1 => tt ρ1 μ (fun k μ1 => (k = true → te ρ1 μ1 (fun y μ2 => acc.length < sizeLine ∧ Z (acc ++ [y]) μ2) wNever) ∧ (k = false → Z acc μ1)) wNever) :
    ∀ ds acc μ, I ds acc μ → lcLoop gd g tt te ρ Q ds acc μ
  | [], acc, μ, h => ⟨hg _ _ _ h, hn _ _ h⟩
  | d :: ds, acc, μ, h => ⟨hg _ _ _ h, hs d ds acc μ h (fun acc' μ' => lcLoop gd g tt te ρ Q ds acc' μ') fun acc' μ' h' => lcLoop_inv I hg hn hs ds acc' μ' h'⟩
theorem i_lc {wi : WI} {g : WG} (h : wi ρ μ (fun ds gd μ1 => lcLoop gd g wt we ρ (fun acc μ2 => Q (.lst acc) μ2) ds [] μ1) E) : wLc wi g wt we ρ μ Q E := h
theorem i_lcM {wi : WI} {g : WG} (h : wi ρ μ (fun ds gd μ1 => lcLoop gd g wt we ρ (fun acc μ2 => ∀ a, μ2 a = none → Q (.raw a) (mset μ2 a (.lst acc))) ds [] μ1) E) : wLcM wi g wt we ρ μ Q E := h
theorem i_it {Q : List D → (Mu → Prop) → Mu → Prop} (h : we ρ μ (fun x μ1 => (∃ ds, getS μ1 x = some ds ∧ Q ds (fun μ' => getS μ' x = some ds) μ1) ∨ (∃ s, x = .str s ∧ Q (signs s) (fun _ => True) μ1)) E) : wIt we ρ μ Q E := h
theorem i_itL {ds : List D} {Q : List D → (Mu → Prop) → Mu → Prop} (h : getS μ x = some ds) (q : Q ds (fun μ' => getS μ' x = some ds) μ) : (∃ ds, getS μ x = some ds ∧ Q ds (fun μ' => getS μ' x = some ds) μ) ∨ (∃ s, x = .str s ∧ Q (signs s) (fun _ => True) μ) := .inl ⟨ds, h, q⟩
theorem i_name {i : Nat} {Q : Env → Prop} (q : Q (ρ.set i (some d))) : wgName i d ρ μ Q := q
theorem i_rng1 {Q : List D → (Mu → Prop) → Mu → Prop} (h : wa ρ μ (fun d μ1 => ∃ j, d = .int j ∧ -(2 ^ 62) ≤ j ∧ j < 2 ^ 62 ∧ Q (rngD 0 j.toNat) (fun _ => True) μ1) E) : wRng1 wa ρ μ Q E := h
end
end T2

set_option maxRecDepth 100000
set_option maxHeartbeats 4000000
namespace T2
open PySem PySem.Spec PyProof.Rows L2
/-! ### one step of a reading, found by its head -/
class Step (p : Prop) (q : outParam Prop) : Prop where
  go : q → p
class Fork (p : Prop) (q r : outParam Prop) : Prop where
  go : q → r → p
section
variable {i j : Nat} {d d2 x y : D} {ρ : Env} {μ : Mu} {Q : PQ} {E : PX} {wa wb wc we : WE} {was wks : WA} {wt wt2 : WT} {w w2 : WS} {k : KS}
instance si_c  : Step (wC d ρ μ Q E) (Q d μ) := ⟨i_c⟩
instance si_op {g : G2} : Step (wOp g wa wb ρ μ Q E) (wa ρ μ (fun x μ1 => wb ρ μ1 (fun y μ2 => g x y μ2 Q) E) E) := ⟨i_op⟩
instance si_chain {g g' : G2} : Step (wChain g g' wa wb wc ρ μ Q E) (wa ρ μ (fun x μ1 => wb ρ μ1 (fun y μ2 => g x y μ2 fun z μ3 => ∃ k, z = .bl k ∧ (k = true → wc ρ μ3 (fun u μ4 => g' y u μ4 Q) E) ∧ (k = false → Q (.bl false) μ3)) E) E) := ⟨i_chain⟩
instance si_un {g : G1} : Step (wUn g wa ρ μ Q E) (wa ρ μ (fun x μ1 => g x μ1 Q) E) := ⟨i_un⟩
instance si_cb {g : GC} : Step (wCB g was ρ μ Q E) (was ρ μ (fun ds μ1 => g ds μ1 Q) E) := ⟨i_cb⟩
instance si_call {n : Nat} {sp : SpD} : Step (wCall n sp was ρ μ Q E) (was ρ μ (fun ds μ1 => ds.length = n ∧ sp ds μ1 Q E) E) := ⟨i_call⟩
instance si_callK {n m : Nat} {sp : SpD} : Step (wCallK n m sp was wks ρ μ Q E) (was ρ μ (fun ds μ1 => wks ρ μ1 (fun es μ2 => ds.length = n ∧ es.length = m ∧ sp (ds ++ es) μ2 Q E) E) E) := ⟨i_callK⟩
instance si_nil {Q : List D → Mu → Prop} : Step (wNil ρ μ Q E) (Q [] μ) := ⟨i_nil⟩
instance si_cons {Q : List D → Mu → Prop} : Step (wCons wa was ρ μ Q E) (wa ρ μ (fun x μ1 => was ρ μ1 (fun xs μ2 => Q (x :: xs) μ2) E) E) := ⟨i_cons⟩
instance si_tup  : Step (wTup was ρ μ Q E) (was ρ μ (fun ds μ' => ds.length ≤ sizeLine ∧ Q (.tup ds) μ') E) := ⟨i_tup⟩
instance si_lst  : Step (wLst was ρ μ Q E) (was ρ μ (fun ds μ' => ds.length ≤ sizeLine ∧ Q (.lst ds) μ') E) := ⟨i_lst⟩
instance si_lstM  : Step (wLstM was ρ μ Q E) (was ρ μ (fun ds μ' => ds.length ≤ sizeLine ∧ ∀ a, μ' a = none → Q (.raw a) (mset μ' a (.lst ds))) E) := ⟨i_lstM⟩
instance si_tru {Q : Bool → Mu → Prop} : Step (wTru we ρ μ Q E) (we ρ μ (fun d μ' => ∃ b, truthOk μ' d b ∧ Q b μ') E) := ⟨i_tru⟩
instance si_tb {Q : Bool → Mu → Prop} : Step (wTB we ρ μ Q E) (we ρ μ (fun d μ' => ∃ b, d = .bl b ∧ Q b μ') E) := ⟨i_tb⟩
instance si_bl {P : Bool → Prop} {b : Bool} : Step (∃ b', D.bl b = .bl b' ∧ P b') (P b) := ⟨i_bl⟩
instance si_notT {Q : Bool → Mu → Prop} : Step (wNotT wt ρ μ Q E) (wt ρ μ (fun b μ' => Q (!b) μ') E) := ⟨i_notT⟩
instance si_andT {Q : Bool → Mu → Prop} : Step (wAndT wt wt2 ρ μ Q E) (wt ρ μ (fun b μ' => (b = true → wt2 ρ μ' Q E) ∧ (b = false → Q false μ')) E) := ⟨i_andT⟩
instance si_orT {Q : Bool → Mu → Prop} : Step (wOrT wt wt2 ρ μ Q E) (wt ρ μ (fun b μ' => (b = true → Q true μ') ∧ (b = false → wt2 ρ μ' Q E)) E) := ⟨i_orT⟩
instance si_not  : Step (wNot wa ρ μ Q E) (wa ρ μ (fun x μ1 => ∃ k, truthOk μ1 x k ∧ Q (.bl (!k)) μ1) E) := ⟨i_not⟩
instance si_and  : Step (wAnd wa wb ρ μ Q E) (wa ρ μ (fun x μ1 => ∃ k, truthOk μ1 x k ∧ (k = true → wb ρ μ1 Q E) ∧ (k = false → Q x μ1)) E) := ⟨i_and⟩
instance si_or  : Step (wOr wa wb ρ μ Q E) (wa ρ μ (fun x μ1 => ∃ k, truthOk μ1 x k ∧ (k = true → Q x μ1) ∧ (k = false → wb ρ μ1 Q E)) E) := ⟨i_or⟩
instance si_if  : Step (wIf wt wa wb ρ μ Q E) (wt ρ μ (fun k μ1 => (k = true → wa ρ μ1 Q E) ∧ (k = false → wb ρ μ1 Q E)) E) := ⟨i_if⟩
instance si_isi {t : Ty} : Step (wIsi t wa ρ μ Q E) (wa ρ μ (fun d μ1 => ∃ s, tyn μ1 d = some s ∧ Q (.bl (isTy s t)) μ1) E) := ⟨i_isi⟩
instance si_mt {T : String} {g : GM} : Step (wMt T g wa was ρ μ Q E) (wa ρ μ (fun x μ1 => tym μ1 x = some T ∧ was ρ μ1 (fun xs μ2 => g x xs μ2 Q) E) E) := ⟨i_mt⟩
instance si_yes {Q : Bool → Mu → Prop} : Step (wYes ρ μ Q E) (Q true μ) := ⟨i_yes⟩
instance si_T {A B : Prop} : Step ((true = true → A) ∧ (true = false → B)) (A) := ⟨i_T⟩
instance si_F {A B : Prop} : Step ((false = true → A) ∧ (false = false → B)) (B) := ⟨i_F⟩
instance si_trB {b : Bool} {P : Bool → Prop} : Step (∃ k, truthOk μ (.bl b) k ∧ P k) (P b) := ⟨i_trB⟩
instance si_next  : Step (wNext k ρ μ) (k.nx ρ μ) := ⟨i_next⟩
instance si_asg  : Step (wAsg i we k ρ μ) (we ρ μ (fun d μ1 => k.nx (ρ.set i (some d)) μ1) (k.ex ρ)) := ⟨i_asg⟩
instance si_drop  : Step (wDrop we k ρ μ) (we ρ μ (fun _ μ1 => k.nx ρ μ1) (k.ex ρ)) := ⟨i_drop⟩
instance si_ret  : Step (wRet we k ρ μ) (we ρ μ (fun d μ1 => ∃ d' μ', Frz μ1 d μ' d' ∧ k.rt d' μ') (k.ex ρ)) := ⟨i_ret⟩
instance si_ifS  : Step (wIfS wt w w2 k ρ μ) (wt ρ μ (fun b μ1 => (b = true → w k ρ μ1) ∧ (b = false → w2 k ρ μ1)) (k.ex ρ)) := ⟨i_ifS⟩
instance si_asgG {g : WG} : Step (wAsgG g we k ρ μ) (we ρ μ (fun d μ1 => g d ρ μ1 fun ρ1 => k.nx ρ1 μ1) (k.ex ρ)) := ⟨i_asgG⟩
instance si_set {g : GSet} : Step (wSet g wa wb we k ρ μ) (we ρ μ (fun z μ1 => wa ρ μ1 (fun x μ2 => wb ρ μ2 (fun y μ3 => g x y z μ3 fun μ4 => k.nx ρ μ4) (k.ex ρ)) (k.ex ρ)) (k.ex ρ)) := ⟨i_set⟩
instance si_for {wi : WI} {g : WG} : Step (wFor wi g w k ρ μ) (wi ρ μ (fun ds gd μ1 => forLoop gd g w k ds ρ μ1) (k.ex ρ)) := ⟨i_for⟩
instance si_addI {a b : Int} : Step (gAdd (.int a) (.int b) μ Q) (Q (.int (a + b)) μ) := ⟨i_addI⟩
instance si_subI {a b : Int} : Step (gSub (.int a) (.int b) μ Q) (Q (.int (a - b)) μ) := ⟨i_subI⟩
instance si_negI {a : Int} : Step (gNeg (.int a) μ Q) (Q (.int (-a)) μ) := ⟨i_negI⟩
instance si_eqI {a b : Int} : Step (gEq (.int a) (.int b) μ Q) (Q (.bl (decide (a = b))) μ) := ⟨i_eqI⟩
instance si_neI {a b : Int} : Step (gNe (.int a) (.int b) μ Q) (Q (.bl (!decide (a = b))) μ) := ⟨i_neI⟩
instance si_ltI {a b : Int} : Step (gLt (.int a) (.int b) μ Q) (Q (.bl (decide (a < b))) μ) := ⟨i_ltI⟩
instance si_leI {a b : Int} : Step (gLe (.int a) (.int b) μ Q) (Q (.bl (decide (a ≤ b))) μ) := ⟨i_leI⟩
instance si_gtI {a b : Int} : Step (gGt (.int a) (.int b) μ Q) (Q (.bl (decide (b < a))) μ) := ⟨i_gtI⟩
instance si_geI {a b : Int} : Step (gGe (.int a) (.int b) μ Q) (Q (.bl (decide (b ≤ a))) μ) := ⟨i_geI⟩
instance si_is  : Step (gIs x .non μ Q) (Q (.bl (isNon x)) μ) := ⟨i_is⟩
instance si_isN  : Step (gIsNot x .non μ Q) (Q (.bl (!isNon x)) μ) := ⟨i_isN⟩
instance si_absI {a : Int} : Step (gAbs [.int a] μ Q) (Q (.int (if a < 0 then -a else a)) μ) := ⟨i_absI⟩
instance si_intI {a : Int} : Step (gInt [.int a] μ Q) (Q (.int a) μ) := ⟨i_intI⟩
instance si_maxI {a b : Int} : Step (gMax [.int a, .int b] μ Q) (Q (.int (if b > a then b else a)) μ) := ⟨i_maxI⟩
instance si_minI {a b : Int} : Step (gMin [.int a, .int b] μ Q) (Q (.int (if b < a then b else a)) μ) := ⟨i_minI⟩
instance si_rev {ds : List D} : Step (gRev (.lst ds) μ Q) (Q (.lst ds.reverse) μ) := ⟨i_rev⟩
instance si_lenF {ds : List D} : Step (gLen [.lst ds] μ Q) (Q (.int ds.length) μ) := ⟨i_lenF⟩
instance si_raise {c : Str} {fs : List Str} : Step (wRaise c fs was k ρ μ) (was ρ μ (fun ds μ1 => ds.length = fs.length ∧ k.ex ρ c (fs.zip ds).reverse μ1) (k.ex ρ)) := ⟨i_raise⟩
instance si_try {is : Str → Bool} {ws : Addr → Addr → Option Addr → WS} : Step (wTry is i w ws k ρ μ) (w { nx := k.nx, rt := k.rt, bk := k.bk, ct := k.ct, ex := fun ρ' c fs μ' => (is c = true → ∀ a ca dx, ws a ca dx { nx := fun ρ2 μ2 => k.nx (ρ2.set i none) μ2, rt := k.rt, bk := fun ρ2 μ2 => k.bk (ρ2.set i none) μ2, ct := fun ρ2 μ2 => k.ct (ρ2.set i none) μ2, ex := fun _ => wNever } (ρ'.set i (some (.exc a ca dx c fs))) μ') ∧ (is c = false → k.ex ρ' c fs μ') } ρ μ) := ⟨i_try⟩
instance si_xf {a ca : Addr} {dx : Option Addr} {f : Str} : Step (wXf a ca dx f we ρ μ Q E) (we ρ μ (fun d μ1 => ∃ c fs v, d = .exc a ca dx c fs ∧ fs.lookup f = some v ∧ Q v μ1) E) := ⟨i_xf⟩
instance si_xi {a ca : Addr} {dx : Option Addr} {is : Str → Bool} : Step (wXi a ca dx is we ρ μ Q E) (we ρ μ (fun d μ1 => ∃ c fs, d = .exc a ca dx c fs ∧ Q (.bl (is c)) μ1) E) := ⟨i_xi⟩
instance si_xiv {a ca : Addr} {dx : Option Addr} {c : Str} {fs : FE} {P : Str → Prop} : Step (∃ c' fs', D.exc a ca dx c fs = .exc a ca dx c' fs' ∧ P c') (P c) := ⟨i_xiv⟩
instance si_dictM {ps : List (WE × WE)} {ρ : Env} {μ : Mu} {Q : PQ} {E : PX} : Step (wDictM ps ρ μ Q E) (wPairs ps ρ μ (fun xs μ1 => ∃ ks, keysOf xs = some ks ∧ ks.length ≤ 15 ∧ ∀ a, μ1 a = none → Q (.raw a) (mset μ1 a (.dct (kmerge [] ks)))) E) := ⟨i_dictM⟩
instance si_dict {ps : List (WE × WE)} {ρ : Env} {μ : Mu} {Q : PQ} {E : PX} : Step (wDict ps ρ μ Q E) (wPairs ps ρ μ (fun xs μ1 => ∃ ks, keysOf xs = some ks ∧ ks.length ≤ 15 ∧ Q (.dct (kmerge [] ks)) μ1) E) := ⟨i_dict⟩
instance si_p0 {ρ : Env} {μ : Mu} {Q : List (D × D) → Mu → Prop} {E : PX} : Step (wPairs [] ρ μ Q E) (Q [] μ) := ⟨i_p0⟩
instance si_p1 {k v : WE} {r : List (WE × WE)} {ρ : Env} {μ : Mu} {Q : List (D × D) → Mu → Prop} {E : PX} : Step (wPairs ((k, v) :: r) ρ μ Q E) (k ρ μ (fun x μ1 => v ρ μ1 (fun y μ2 => wPairs r ρ μ2 (fun ps μ3 => Q ((x, y) :: ps) μ3) E) E) E) := ⟨i_p1⟩
instance si_eqB {a b : Bool} {μ : Mu} {Q : PQ} : Step (gEq (.bl a) (.bl b) μ Q) (Q (.bl (decide (a = b))) μ) := ⟨i_eqB⟩
instance si_eqT {a b : Str} {μ : Mu} {Q : PQ} : Step (gEq (.str a) (.str b) μ Q) (Q (.bl (decide (a = b))) μ) := ⟨i_eqT⟩
instance si_neT {a b : Str} {μ : Mu} {Q : PQ} : Step (gNe (.str a) (.str b) μ Q) (Q (.bl (!decide (a = b))) μ) := ⟨i_neT⟩
instance si_tryM {cl : List ClD} : Step (wTryM cl w k ρ μ) (w { nx := k.nx, rt := k.rt, bk := k.bk, ct := k.ct, ex := exM k cl } ρ μ) := ⟨i_tryM⟩
instance si_exC {is : Str → Bool} {ws : Addr → Addr → Option Addr → WS} {r : List ClD} {c : Str} {fs : FE} : Step (exM k ((is, i, ws) :: r) ρ c fs μ) ((is c = true → ∀ a ca dx, ws a ca dx { nx := fun ρ2 μ2 => k.nx (ρ2.set i none) μ2, rt := k.rt, bk := fun ρ2 μ2 => k.bk (ρ2.set i none) μ2, ct := fun ρ2 μ2 => k.ct (ρ2.set i none) μ2, ex := fun _ => wNever } (ρ.set i (some (.exc a ca dx c fs))) μ) ∧ (is c = false → exM k r ρ c fs μ)) := ⟨i_exC⟩
instance si_exN {c : Str} {fs : FE} : Step (exM k [] ρ c fs μ) (k.ex ρ c fs μ) := ⟨i_exN⟩
instance si_lc {wi : WI} {g : WG} : Step (wLc wi g wt we ρ μ Q E) (wi ρ μ (fun ds gd μ1 => lcLoop gd g wt we ρ (fun acc μ2 => Q (.lst acc) μ2) ds [] μ1) E) := ⟨i_lc⟩
instance si_lcM {wi : WI} {g : WG} : Step (wLcM wi g wt we ρ μ Q E) (wi ρ μ (fun ds gd μ1 => lcLoop gd g wt we ρ (fun acc μ2 => ∀ a, μ2 a = none → Q (.raw a) (mset μ2 a (.lst acc))) ds [] μ1) E) := ⟨i_lcM⟩
instance si_it {Q : List D → (Mu → Prop) → Mu → Prop} : Step (wIt we ρ μ Q E) (we ρ μ (fun x μ1 => (∃ ds, getS μ1 x = some ds ∧ Q ds (fun μ' => getS μ' x = some ds) μ1) ∨ (∃ s, x = .str s ∧ Q (signs s) (fun _ => True) μ1)) E) := ⟨i_it⟩
instance si_name {i : Nat} {Q : Env → Prop} : Step (wgName i d ρ μ Q) (Q (ρ.set i (some d))) := ⟨i_name⟩
instance si_rng1 {Q : List D → (Mu → Prop) → Mu → Prop} : Step (wRng1 wa ρ μ Q E) (wa ρ μ (fun d μ1 => ∃ j, d = .int j ∧ -(2 ^ 62) ≤ j ∧ j < 2 ^ 62 ∧ Q (rngD 0 j.toNat) (fun _ => True) μ1) E) := ⟨i_rng1⟩
instance si_dec {p : Prop} [Decidable p] {A B : Prop} : Fork ((decide p = true → A) ∧ (decide p = false → B)) (p → A) (¬p → B) := ⟨i_dec⟩
instance si_ndec {p : Prop} [Decidable p] {A B : Prop} : Fork (((!decide p) = true → A) ∧ ((!decide p) = false → B)) (¬p → A) (p → B) := ⟨i_ndec⟩
end
end T2

set_option maxRecDepth 100000
set_option maxHeartbeats 4000000
set_option hygiene false
local macro_rules | `(tactic| rotate_left 901) => `(tactic| (repeat' (first | (with_reducible refine Step.go ?_) | (with_reducible refine i_var (by with_unfolding_all apply Eq.refl) ?_) | (with_reducible refine i_seq ?_) | (with_reducible refine i_rt ?_) | (with_reducible refine Fork.go (fun h => ?_) (fun h => ?_)) | (with_reducible refine i_ixS (by with_reducible first | assumption | apply mset_same) (by with_unfolding_all apply Eq.refl) ?_) | (with_reducible refine i_ixF (by with_unfolding_all apply Eq.refl) ?_) | (with_reducible refine i_ixT (by with_unfolding_all apply Eq.refl) ?_) | (with_reducible refine i_xfv (by with_unfolding_all apply Eq.refl) ?_) | (with_reducible refine i_isv (by with_unfolding_all apply Eq.refl) ?_) | (with_reducible refine i_isvL (by with_reducible first | assumption | apply mset_same) ?_) | (with_reducible refine i_Tv (by with_unfolding_all apply Eq.refl) ?_) | (with_reducible refine i_Fv (by with_unfolding_all apply Eq.refl) ?_) | (with_reducible refine i_lcC (by first | apply True.intro | with_unfolding_all apply Eq.refl) ?_) | (with_reducible refine i_lcN (by first | apply True.intro | with_unfolding_all apply Eq.refl) ?_) | (with_reducible refine i_forC (by first | apply True.intro | with_unfolding_all apply Eq.refl) ?_) | (with_reducible refine i_forN (by first | apply True.intro | with_unfolding_all apply Eq.refl) ?_) | (with_reducible refine i_sz2 (by with_unfolding_all apply Eq.refl) ?_) | (with_reducible refine i_size (by with_unfolding_all apply Eq.refl) ?_) | (with_reducible refine i_gT (by with_unfolding_all apply Eq.refl) ?_) | (with_reducible refine i_powC (by decide) (by decide) (by decide) ?_) | (with_reducible refine i_setL (by with_reducible first | assumption | apply mset_same) (by with_unfolding_all apply Eq.refl) ?_) | (with_reducible refine i_lenS (by with_reducible first | assumption | apply mset_same) ?_))))
namespace T2
open PySem PySem.Spec PyProof.Rows L2
/-! ### bounds by powers of two -/
def Bd (n : Nat) (i : Int) : Prop := i.natAbs < 2 ^ n
def BB : Nat := 1048576
theorem Bd.mono {n m : Nat} {i : Int} (h : Bd n i) (l : n ≤ m) : Bd m i := Nat.lt_of_lt_of_le h (Nat.pow_le_pow_right (by decide) l)
theorem Bd.mul {n m : Nat} {i j : Int} (h : Bd n i) (h2 : Bd m j) (l : n + m ≤ 134217728) : CMulX i j := mulx_ok h h2 l
theorem Bd.nat {n : Nat} {i : Int} (h0 : 0 ≤ i) (h1 : i < 2 ^ n) : Bd n i := by
  obtain ⟨j, rfl⟩ := Int.eq_ofNat_of_zero_le h0
  show j < 2 ^ n
  exact Int.ofNat_lt.mp (by rw [Int.natCast_pow]; exact h1)
theorem Bd.abs {n : Nat} {i j : Int} (h : Bd n i) (e : j.natAbs = i.natAbs) : Bd n j := by unfold Bd; rw [e]; exact h
theorem Bd.le {n : Nat} {i j : Int} (h : Bd n i) (h0 : 0 ≤ j) (h1 : j ≤ i) : Bd n j := Nat.lt_of_le_of_lt (show j.natAbs ≤ i.natAbs by omega) h
theorem Bd.dbl {n : Nat} {i j : Int} (h : Bd n i) (l : j.natAbs ≤ 2 * i.natAbs + 1) : Bd (n + 1) j := by
  unfold Bd at h ⊢
  have e : 2 ^ (n + 1) = 2 * 2 ^ n := by rw [Nat.pow_succ, Nat.mul_comm]
  omega
theorem Bd.ofBits {n : Nat} {i : Int} (h : Builtin.Int.intBits i ≤ n) : Bd n i := by
  unfold Bd
  unfold Builtin.Int.intBits at h
  by_cases e : i = 0
  · subst e; exact Nat.two_pow_pos n
  · rw [if_neg (by simpa using e)] at h
    have := Nat.lt_log2_self (n := i.natAbs)
    exact Nat.lt_of_lt_of_le this (Nat.pow_le_pow_right (by decide) h)
theorem bb2 : BB + 1 + 61 ≤ 134217728 := by decide
/-! ### the hidden chooser -/
/-! _law_mixed -/
def N_mixed : List Str := ["_law_number_here", "_law_turn", "_law_many", "_law_one", "_law_two", "_law_three", "_law_value"]
def P_mixed : List Str := ["_law_number_here", "_law_turn", "_law_many"]
abbrev w_mixed_p0 : WS := (wSeq (wAsg 5 (wOp gMod (wCB gInt (wCons (wOp gAdd (wOp gMul (wVar 4) (wVar 4)) (wVar 3)) wNil)) (wC (.int 18446744073709551557))))
  (wSeq (wAsg 6 (wOp gDiv (wVar 5) (wC (.int 1024))))
  (wSeq (wIfS (wTB (wOp gGt (wVar 2) (wC (.int 1000000)))) (wAsg 6 (wOp gAdd (wOp gMul (wVar 6) (wC (.int 18446744073709551557))) (wOp gMod (wCB gInt (wCons (wOp gAdd (wOp gMul (wVar 5) (wVar 5)) (wVar 4)) wNil)) (wC (.int 18446744073709551557))))) wNext)
  (wRet (wOp gMod (wCB gInt (wCons (wVar 6) wNil)) (wVar 2))))))
def w_mixed  : WS := (wSeq (wAsg 3 (wOp gMod (wCB gInt (wCons (wOp gAdd (wOp gAdd (wOp gMul (wVar 0) (wC (.int 1442695040888963407))) (wOp gMul (wVar 1) (wC (.int 2862933555777941757)))) (wC (.int 3037000493))) wNil)) (wC (.int 2305843009213693951))))
  (wSeq (wAsg 4 (wOp gMod (wCB gInt (wCons (wOp gAdd (wOp gAdd (wOp gMul (wVar 3) (wVar 3)) (wVar 1)) (wC (.int 7))) wNil)) (wC (.int 1000000000000037))))
  w_mixed_p0))
def G_mixed : Gam := ⟨[], [], [], [], []⟩
def sp_mixed : SpD := fun ds μ Q _ => ∃ n t m : Int, ds = [.int n, .int t, .int m] ∧ Bd (BB + 1) n ∧ Bd 61 t ∧ 0 < m ∧ ∀ r : Int, 0 ≤ r → r < m → Q (.int r) μ
theorem pf_mixed : ∀ ds μ Q E, sp_mixed ds μ Q E → w_mixed (endK Q E) (startD N_mixed ds) μ := by
  rintro ds μ Q E ⟨n, t, m, rfl, hn, ht, hm, q⟩
  unfold w_mixed
  rotate_left 901
  refine i_mulI (hn.mul (show Bd 61 1442695040888963407 by unfold Bd; decide) bb2) ?_
  rotate_left 901
  refine i_mulI (ht.mul (show Bd 62 2862933555777941757 by unfold Bd; decide) (by decide)) ?_
  rotate_left 901
  refine i_modG (by decide) fun r1 h1 h1' => ?_
  have b1 : Bd 61 r1 := .nat h1 (by omega)
  rotate_left 901
  refine i_mulI (b1.mul b1 (by decide)) ?_
  rotate_left 901
  refine i_modG (by decide) fun r2 h2 h2' => ?_
  have b2 : Bd 61 r2 := .nat h2 (by omega)
  rotate_left 901
  refine i_mulI (b2.mul b2 (by decide)) ?_
  rotate_left 901
  refine i_modG (by decide) fun r3 h3 h3' => ?_
  have b3 : Bd 64 r3 := .nat h3 (by omega)
  rotate_left 901
  refine i_divG ⟨by decide, by decide⟩ h3 fun r4 h4 h4' => ?_
  have b4 : Bd 64 r4 := .nat h4 (by omega)
  rotate_left 901
  · refine i_mulI (b4.mul (show Bd 64 18446744073709551557 by unfold Bd; decide) (by decide)) ?_
    rotate_left 901
    refine i_mulI (b3.mul b3 (by decide)) ?_
    rotate_left 901
    refine i_modG (by decide) fun r5 h5 h5' => ?_
    rotate_left 901
    refine i_modG hm fun r6 h6 h6' => ?_
    rotate_left 901
    exact q _ h6 h6'
  · refine i_modG hm fun r6 h6 h6' => ?_
    rotate_left 901
    exact q _ h6 h6'
theorem mset_self {μ : Mu} {a : Addr} {o : MO} (h : μ a = some o) : mset μ a o = μ := by
  funext b
  unfold mset
  split
  · rename_i e; rw [e, h]
  · rfl
/-- the store: cells, place, value, turn, seed; b: above its turn -/
def StO (b : Int) (o : MO) : Prop := ∃ (cs : List Int) (p v t n : Int), o = .lst [.lst (cs.map D.int), .int p, .int v, .int t, .int n] ∧ (∀ c ∈ cs, Bd BB c) ∧ 0 ≤ p ∧ 0 ≤ v ∧ Bd BB v ∧ 0 ≤ t ∧ t < b ∧ Bd 61 n
theorem StO.mono {b b' : Int} {o : MO} (h : StO b o) (l : b ≤ b') : StO b' o := by
  obtain ⟨cs, p, v, t, n, e, h1, h2, h3, h4, h5, h6, h7⟩ := h
  exact ⟨cs, p, v, t, n, e, h1, h2, h3, h4, h5, by omega, h7⟩
theorem cell_at {cs : List Int} {p : Int} (h0 : 0 ≤ p) (h1 : p < (cs.map D.int).length) : ∃ c ∈ cs, atI (cs.map D.int) p = some (.int c) := by
  obtain ⟨h, e⟩ := atI_ok h0 h1
  refine ⟨cs[p.toNat]'(by rw [List.length_map] at h; exact h), List.getElem_mem _, ?_⟩
  rw [e, List.getElem_map]
def sp_take : SpD := fun ds μ Q _ => ∃ (a : Addr) (o : MO) (b m : Int), ds = [.raw a, .int m] ∧ μ a = some o ∧ StO b o ∧ b < 1000000000000000000 ∧ m < 1000000000000000000000 ∧ ∀ (r : Int) (o' : MO), 0 ≤ r → (r < m ∨ r = 0) → StO (b + 1) o' → Q (.int r) (mset μ a o')
/-! _law_take -/
def N_take : List Str := ["_law_store_here", "_law_many", "_law_value", "_law_number_here", "_law_cell"]
def P_take : List Str := ["_law_store_here", "_law_many"]
abbrev w_take_p0 : WS := (wSeq (wAsg 4 (wOp gIx (wOp gIx (wVar 0) (wC (.int 0))) (wOp gIx (wVar 0) (wC (.int 1)))))
      (wSeq (wSet gSet (wVar 0) (wC (.int 1)) (wOp gAdd (wOp gIx (wVar 0) (wC (.int 1))) (wC (.int 1))))
      (wSeq (wAsg 3 (wOp gMul (wCB gAbs (wCons (wVar 4) wNil)) (wC (.int 2))))
      (wSeq (wIfS (wTB (wOp gLt (wVar 4) (wC (.int 0)))) (wAsg 3 (wOp gAdd (wVar 3) (wC (.int 1)))) wNext)
      (wIfS (wTB (wOp gGe (wCB gAbs (wCons (wVar 4) wNil)) (wOp gPow (wC (.int 10)) (wC (.int 18))))) (wAsg 2 (wCB gAbs (wCons (wVar 4) wNil))) wNext)))))
abbrev w_take_p1 : WS := (wSeq (wIfS (wTB (wOp gEq (wVar 2) (wC (.int 0)))) (wSeq (wSet gSet (wVar 0) (wC (.int 3)) (wOp gAdd (wOp gIx (wVar 0) (wC (.int 3))) (wC (.int 1))))
    (wIfS (wTB (wOp gLt (wOp gIx (wVar 0) (wC (.int 1))) (wCB gLen (wCons (wOp gIx (wVar 0) (wC (.int 0))) wNil)))) w_take_p0 wNext)) wNext)
  (wSeq (wIfS (wTB (wOp gEq (wVar 2) (wC (.int 0)))) (wRet (wCall 3 sp_mixed (wCons (wVar 3) (wCons (wOp gIx (wVar 0) (wC (.int 3))) (wCons (wVar 1) wNil))))) wNext)
  (wSeq (wSet gSet (wVar 0) (wC (.int 2)) (wOp gDiv (wCB gInt (wCons (wVar 2) wNil)) (wVar 1)))
  (wRet (wOp gMod (wCB gInt (wCons (wVar 2) wNil)) (wVar 1))))))
def w_take  : WS := (wSeq (wIfS (wTB (wOp gLt (wVar 1) (wC (.int 2)))) (wRet (wC (.int 0))) wNext)
  (wSeq (wAsg 2 (wOp gIx (wVar 0) (wC (.int 2))))
  (wSeq (wAsg 3 (wOp gIx (wVar 0) (wC (.int 4))))
  w_take_p1)))
def G_take : Gam := ⟨[⟨"_law_mixed", 3, [], false, sp_mixed⟩], [], [], [], []⟩
theorem pf_take : ∀ ds μ Q E, sp_take ds μ Q E → w_take (endK Q E) (startD N_take ds) μ := by
  rintro ds μ Q E ⟨a, o, b, m, rfl, hμ, ho, hb, hm, q⟩
  have ho' := ho
  obtain ⟨cs, p, v, t, n, rfl, h1, h2, h3, h4, h5, h6, h7⟩ := ho
  unfold w_take
  rotate_left 901
  · have := q 0 _ (Int.le_refl 0) (.inr rfl) (ho'.mono (by omega))
    rw [mset_self hμ] at this
    exact this
  all_goals have hm0 : 0 < m := by omega
  all_goals have hml : m.natAbs.log2 < 9000 := Nat.lt_trans (PySem.Flt.log2_lt_of (k := 70) (by decide) (show m.natAbs < 2 ^ 70 by omega)) (by decide)
  · obtain ⟨c, hc, e⟩ := cell_at h2 h
    have hcb := h1 c hc
    refine i_ixF e ?_
    rotate_left 901
    refine i_mulI (Bd.mul (n := BB) (m := 2) (hcb.abs (by split <;> omega)) (by unfold Bd; decide) (by decide)) ?_
    rotate_left 901
    all_goals first
      | (exfalso; omega)
      | (refine ⟨rfl, _, _, _, rfl, Bd.dbl hcb (by split <;> omega), .nat (by omega) (by omega), by omega, fun r hr0 hr1 => ?_⟩
         rotate_left 901
         rw [mset_mset]
         exact q r _ hr0 (.inl hr1) ⟨cs, p + 1, v, t + 1, n, rfl, h1, by omega, h3, h4, by omega, by omega, h7⟩)
      | (refine i_divG ⟨hm0, hml⟩ (by split <;> omega) fun r1 g1 g2 => ?_
         rotate_left 901
         refine i_modG hm0 fun r2 g3 g4 => ?_
         rotate_left 901
         rw [mset_mset, mset_mset]
         exact q _ _ g3 (.inl g4) ⟨cs, p + 1, r1, t + 1, n, rfl, h1, by omega, g1, Bd.le (hcb.abs (show (if c < 0 then -c else c).natAbs = c.natAbs by split <;> omega)) g1 g2, by omega, by omega, h7⟩)
  · refine ⟨rfl, _, _, _, rfl, h7.mono (by decide), .nat (by omega) (by omega), by omega, fun r hr0 hr1 => ?_⟩
    rotate_left 901
    exact q r _ hr0 (.inl hr1) ⟨cs, p, v, t + 1, n, rfl, h1, h2, h3, h4, by omega, by omega, h7⟩
  · omega
  · omega
  · refine i_divG ⟨hm0, hml⟩ h3 fun r1 g1 g2 => ?_
    rotate_left 901
    refine i_modG hm0 fun r2 g3 g4 => ?_
    rotate_left 901
    exact q _ _ g3 (.inl g4) ⟨cs, p, r1, t, n, rfl, h1, h2, g1, h4.le g1 g2, h5, by omega, h7⟩
end T2


set_option maxRecDepth 100000
set_option maxHeartbeats 4000000
namespace T2
open PySem PySem.Spec PyProof.Rows L2
section
variable {a : Addr} {o : MO} {b m : Int} {μ : Mu} {Q : PQ} {E : PX}
theorem i_take (hμ : μ a = some o) (ho : StO b o) (hb : b < 1000000000000000000) (hm : m < 1000000000000000000000) (q : ∀ (r : Int) (o' : MO), 0 ≤ r → (r < m ∨ r = 0) → StO (b + 1) o' → Q (.int r) (mset μ a o')) :
    [D.raw a, D.int m].length = 2 ∧ sp_take [.raw a, .int m] μ Q E := ⟨rfl, a, o, b, m, rfl, hμ, ho, hb, hm, q⟩
end
/-! _law_chance -/
def N_chance : List Str := ["_law_store_here", "_law_many"]
def P_chance : List Str := ["_law_store_here", "_law_many"]
def w_chance  : WS := (wRet (wOp gEq (wCall 2 sp_take (wCons (wVar 0) (wCons (wVar 1) wNil))) (wC (.int 0))))
def G_chance : Gam := ⟨[⟨"_law_take", 2, [], false, sp_take⟩], [], [], [], []⟩
/-! _law_pick -/
def N_pick : List Str := ["_law_store_here", "_law_row"]
def P_pick : List Str := ["_law_store_here", "_law_row"]
def w_pick  : WS := (wSeq (wIfS (wTB (wOp gEq (wCB gLen (wCons (wVar 1) wNil)) (wC (.int 0)))) (wRet (wC .non)) wNext)
  (wRet (wOp gIx (wVar 1) (wCall 2 sp_take (wCons (wVar 0) (wCons (wCB gLen (wCons (wVar 1) wNil)) wNil))))))
def G_pick : Gam := ⟨[⟨"_law_take", 2, [], false, sp_take⟩], [], [], [], []⟩
def sp_chance : SpD := fun ds μ Q _ => ∃ (a : Addr) (o : MO) (b m : Int), ds = [.raw a, .int m] ∧ μ a = some o ∧ StO b o ∧ b < 1000000000000000000 ∧ m < 1000000000000000000000 ∧ ∀ (k : Bool) (o' : MO), StO (b + 1) o' → Q (.bl k) (mset μ a o')
theorem pf_chance : ∀ ds μ Q E, sp_chance ds μ Q E → w_chance (endK Q E) (startD N_chance ds) μ := by
  rintro ds μ Q E ⟨a, o, b, m, rfl, hμ, ho, hb, hm, q⟩
  unfold w_chance
  rotate_left 901
  refine i_take hμ ho hb hm fun r o' h0 h1 ho' => ?_
  rotate_left 901
  exact q _ _ ho'
theorem i_chance {a : Addr} {o : MO} {b m : Int} {μ : Mu} {Q : PQ} {E : PX} (hμ : μ a = some o) (ho : StO b o) (hb : b < 1000000000000000000) (hm : m < 1000000000000000000000) (q : ∀ (k : Bool) (o' : MO), StO (b + 1) o' → Q (.bl k) (mset μ a o')) :
    [D.raw a, D.int m].length = 2 ∧ sp_chance [.raw a, .int m] μ Q E := ⟨rfl, a, o, b, m, rfl, hμ, ho, hb, hm, q⟩
def sp_pick : SpD := fun ds μ Q _ => ∃ (a : Addr) (o : MO) (b : Int) (row : D) (xs : List D), ds = [.raw a, row] ∧ μ a = some o ∧ StO b o ∧ b < 1000000000000000000 ∧ getS μ row = some xs ∧ (∀ o', getS (mset μ a o') row = some xs) ∧ xs.length < 1000000000 ∧
  ((xs = [] → Q .non μ) ∧ ∀ x ∈ xs, ∀ o', StO (b + 1) o' → Q x (mset μ a o'))
theorem pf_pick : ∀ ds μ Q E, sp_pick ds μ Q E → w_pick (endK Q E) (startD N_pick ds) μ := by
  rintro ds μ Q E ⟨a, o, b, row, xs, rfl, hμ, ho, hb, hr, hr2, hl, q1, q2⟩
  unfold w_pick
  rotate_left 901
  refine i_lenL hr ?_
  rotate_left 901
  · exact q1 (List.length_eq_zero_iff.mp (by omega))
  · refine i_lenL hr ?_
    rotate_left 901
    refine i_take hμ ho hb (by omega) fun r o' h0 h1 ho' => ?_
    have hr1 : r < xs.length := by omega
    obtain ⟨hx, e⟩ := atI_ok h0 hr1
    refine i_ix (hr2 o') e ?_
    rotate_left 901
    exact q2 _ (List.getElem_mem _) _ ho'
theorem i_pick {a : Addr} {o : MO} {b : Int} {row : D} {xs : List D} {μ : Mu} {Q : PQ} {E : PX} (hμ : μ a = some o) (ho : StO b o) (hb : b < 1000000000000000000) (hr : getS μ row = some xs) (hr2 : ∀ o', getS (mset μ a o') row = some xs) (hl : xs.length < 1000000000) (hne : xs ≠ [])
    (q : ∀ x ∈ xs, ∀ o', StO (b + 1) o' → Q x (mset μ a o')) : [D.raw a, row].length = 2 ∧ sp_pick [.raw a, row] μ Q E := ⟨rfl, a, o, b, row, xs, rfl, hμ, ho, hb, hr, hr2, hl, fun e => absurd e hne, q⟩
/-! _law_number -/
def N_number : List Str := ["_law_store_here", "_law_low", "_law_high", "_law_kind"]
def P_number : List Str := ["_law_store_here", "_law_low", "_law_high"]
abbrev w_number_p0 : WS := (wSeq (wIfS (wTB (wOp gEq (wVar 3) (wC (.int 1)))) (wRet (wVar 2)) wNext)
  (wSeq (wIfS (wTB (wOp gEq (wVar 3) (wC (.int 2)))) (wSeq (wIfS (wTru (wCall 2 sp_chance (wCons (wVar 0) (wCons (wC (.int 2)) wNil)))) (wRet (wCB gMin (wCons (wOp gAdd (wVar 1) (wC (.int 1))) (wCons (wVar 2) wNil)))) wNext)
    (wRet (wCB gMax (wCons (wOp gSub (wVar 2) (wC (.int 1))) (wCons (wVar 1) wNil))))) wNext)
  (wRet (wOp gAdd (wVar 1) (wCall 2 sp_take (wCons (wVar 0) (wCons (wOp gAdd (wOp gSub (wVar 2) (wVar 1)) (wC (.int 1))) wNil)))))))
def w_number  : WS := (wSeq (wAsg 3 (wCall 2 sp_take (wCons (wVar 0) (wCons (wC (.int 9)) wNil))))
  (wSeq (wIfS (wTB (wOp gEq (wVar 3) (wC (.int 0)))) (wRet (wVar 1)) wNext)
  w_number_p0))
def G_number : Gam := ⟨[⟨"_law_take", 2, [], false, sp_take⟩, ⟨"_law_chance", 2, [], false, sp_chance⟩], [], [], [], []⟩
def sp_number : SpD := fun ds μ Q _ => ∃ (a : Addr) (o : MO) (b lo hi : Int), ds = [.raw a, .int lo, .int hi] ∧ μ a = some o ∧ StO b o ∧ b < 100000000000000000 ∧ lo ≤ hi ∧ hi - lo < 100000000000000000000 ∧ ∀ (r : Int) (o' : MO), lo ≤ r → r ≤ hi → StO (b + 2) o' → Q (.int r) (mset μ a o')
theorem pf_number : ∀ ds μ Q E, sp_number ds μ Q E → w_number (endK Q E) (startD N_number ds) μ := by
  rintro ds μ Q E ⟨a, o, b, lo, hi, rfl, hμ, ho, hb, hlh, hm, q⟩
  unfold w_number
  rotate_left 901
  refine i_take hμ ho (by omega) (by decide) fun r o' h0 h1 ho' => ?_
  rotate_left 901
  · exact q _ _ (by omega) (by omega) (ho'.mono (by omega))
  · exact q _ _ (by omega) (by omega) (ho'.mono (by omega))
  · refine i_chance mset_same ho' (by omega) (by decide) fun k o2 ho2 => ?_
    rw [mset_mset]
    cases k
    all_goals rotate_left 901
    · exact q _ _ (by split <;> omega) (by split <;> omega) (ho2.mono (by omega))
    · exact q _ _ (by split <;> omega) (by split <;> omega) (ho2.mono (by omega))
  · refine i_take mset_same ho' (by omega) (by omega) fun r2 o2 g0 g1 ho2 => ?_
    rw [mset_mset]
    rotate_left 901
    exact q _ _ (by omega) (by omega) (ho2.mono (by omega))
theorem i_number {a : Addr} {o : MO} {b lo hi : Int} {μ : Mu} {Q : PQ} {E : PX} (hμ : μ a = some o) (ho : StO b o) (hb : b < 100000000000000000) (hlh : lo ≤ hi) (hm : hi - lo < 100000000000000000000) (q : ∀ (r : Int) (o' : MO), lo ≤ r → r ≤ hi → StO (b + 2) o' → Q (.int r) (mset μ a o')) :
    [D.raw a, D.int lo, D.int hi].length = 3 ∧ sp_number [.raw a, .int lo, .int hi] μ Q E := ⟨rfl, a, o, b, lo, hi, rfl, hμ, ho, hb, hlh, hm, q⟩
/-- not a number of lo .. hi -/
def BadN (lo hi : Int) (d : D) : Prop := (∃ b, d = .bl b) ∨ d = .non ∨ ∃ i, d = .int i ∧ (i < lo ∨ hi < i)
/-! _law_bad_number -/
def N_bad_number : List Str := ["_law_store_here", "_law_low", "_law_high", "_law_kind"]
def P_bad_number : List Str := ["_law_store_here", "_law_low", "_law_high"]
abbrev w_bad_number_p0 : WS := (wSeq (wIfS (wTB (wOp gEq (wVar 3) (wC (.int 5)))) (wRet (wOp gSub (wOp gPow (wC (.int 10)) (wC (.int 20))) (wC (.int 1)))) wNext)
  (wSeq (wIfS (wTB (wOp gEq (wVar 3) (wC (.int 6)))) (wRet (wOp gSub (wC (.int 1)) (wOp gPow (wC (.int 10)) (wC (.int 20))))) wNext)
  (wSeq (wIfS (wTB (wOp gEq (wVar 3) (wC (.int 7)))) (wRet (wOp gSub (wOp gSub (wVar 1) (wC (.int 1))) (wCall 2 sp_take (wCons (wVar 0) (wCons (wOp gPow (wC (.int 10)) (wC (.int 18))) wNil))))) wNext)
  (wRet (wOp gAdd (wOp gAdd (wVar 2) (wC (.int 1))) (wCall 2 sp_take (wCons (wVar 0) (wCons (wOp gPow (wC (.int 10)) (wC (.int 18))) wNil))))))))
def w_bad_number  : WS := (wSeq (wAsg 3 (wCall 2 sp_take (wCons (wVar 0) (wCons (wC (.int 9)) wNil))))
  (wSeq (wIfS (wTB (wOp gLt (wVar 3) (wC (.int 3)))) (wRet (wOp gIx (wLst (wCons (wC (.bl true)) (wCons (wC (.bl false)) (wCons (wC .non) wNil)))) (wVar 3))) wNext)
  (wSeq (wIfS (wTB (wOp gEq (wVar 3) (wC (.int 3)))) (wRet (wOp gSub (wVar 1) (wC (.int 1)))) wNext)
  (wSeq (wIfS (wTB (wOp gEq (wVar 3) (wC (.int 4)))) (wRet (wOp gAdd (wVar 2) (wC (.int 1)))) wNext)
  w_bad_number_p0))))
def G_bad_number : Gam := ⟨[⟨"_law_take", 2, [], false, sp_take⟩], [], [], [], []⟩
def sp_bad_number : SpD := fun ds μ Q _ => ∃ (a : Addr) (o : MO) (b lo hi : Int), ds = [.raw a, .int lo, .int hi] ∧ μ a = some o ∧ StO b o ∧ b < 100000000000000000 ∧ -10000000000000000000 ≤ lo ∧ hi ≤ 10000000000000000000 ∧ ∀ (d : D) (o' : MO), BadN lo hi d → StO (b + 2) o' → Q d (mset μ a o')
theorem pf_bad_number : ∀ ds μ Q E, sp_bad_number ds μ Q E → w_bad_number (endK Q E) (startD N_bad_number ds) μ := by
  rintro ds μ Q E ⟨a, o, b, lo, hi, rfl, hμ, ho, hb, hlo, hhi, q⟩
  unfold w_bad_number
  rotate_left 901
  refine i_take hμ ho (by omega) (by decide) fun r o' h0 h1 ho' => ?_
  rotate_left 901
  · obtain rfl | rfl | rfl : r = 0 ∨ r = 1 ∨ r = 2 := by omega
    all_goals rotate_left 901
    · exact q _ _ (.inl ⟨_, rfl⟩) (ho'.mono (by omega))
    · exact q _ _ (.inl ⟨_, rfl⟩) (ho'.mono (by omega))
    · exact q _ _ (.inr (.inl rfl)) (ho'.mono (by omega))
  · exact q _ _ (.inr (.inr ⟨_, rfl, by omega⟩)) (ho'.mono (by omega))
  · exact q _ _ (.inr (.inr ⟨_, rfl, by omega⟩)) (ho'.mono (by omega))
  · exact q _ _ (.inr (.inr ⟨_, rfl, by rw [p10_20]; omega⟩)) (ho'.mono (by omega))
  · exact q _ _ (.inr (.inr ⟨_, rfl, by rw [p10_20]; omega⟩)) (ho'.mono (by omega))
  · refine i_take mset_same ho' (by omega) (by rw [p10_18]; omega) fun r2 o2 g0 g1 ho2 => ?_
    rw [mset_mset]
    rotate_left 901
    exact q _ _ (.inr (.inr ⟨_, rfl, by omega⟩)) (ho2.mono (by omega))
  · refine i_take mset_same ho' (by omega) (by rw [p10_18]; omega) fun r2 o2 g0 g1 ho2 => ?_
    rw [mset_mset]
    rotate_left 901
    exact q _ _ (.inr (.inr ⟨_, rfl, by omega⟩)) (ho2.mono (by omega))
theorem i_bad_number {a : Addr} {o : MO} {b lo hi : Int} {μ : Mu} {Q : PQ} {E : PX} (hμ : μ a = some o) (ho : StO b o) (hb : b < 100000000000000000) (hlo : -10000000000000000000 ≤ lo) (hhi : hi ≤ 10000000000000000000) (q : ∀ (d : D) (o' : MO), BadN lo hi d → StO (b + 2) o' → Q d (mset μ a o')) :
    [D.raw a, D.int lo, D.int hi].length = 3 ∧ sp_bad_number [.raw a, .int lo, .int hi] μ Q E := ⟨rfl, a, o, b, lo, hi, rfl, hμ, ho, hb, hlo, hhi, q⟩
/-! _law_store -/
def N_store : List Str := ["_law_script", "_law_cells", "_law_cell", "_law_seed"]
def P_store : List Str := ["_law_script"]
def w_store  : WS := (wSeq (wAsg 1 (wLc (wIt (wVar 0)) (wgName 2) wYes (wCB gInt (wCons (wVar 2) wNil))))
  (wSeq (wAsg 3 (wOp gAdd (wC (.int 7)) (wCB gLen (wCons (wVar 1) wNil))))
  (wSeq (wFor (wIt (wVar 1)) (wgName 2) (wAsg 3 (wOp gMod (wCB gInt (wCons (wOp gAdd (wOp gMul (wVar 3) (wC (.int 1000003))) (wOp gMod (wCB gInt (wCons (wVar 2) wNil)) (wC (.int 2305843009213693951)))) wNil)) (wC (.int 2305843009213693951)))))
  (wRet (wLstM (wCons (wVar 1) (wCons (wC (.int 0)) (wCons (wC (.int 0)) (wCons (wC (.int 0)) (wCons (wVar 3) wNil))))))))))
def G_store : Gam := ⟨[], [], [], [], []⟩
def sp_store : SpD := fun ds μ Q _ => ∃ ns : List Int, ds = [.scr (ns.map D.int)] ∧ (∀ z ∈ ns, Bd BB z) ∧ ns.length < sizeLine ∧ ∀ a o, μ a = none → StO 1 o → Q (.raw a) (mset μ a o)
theorem pf_store : ∀ ds μ Q E, sp_store ds μ Q E → w_store (endK Q E) (startD N_store ds) μ := by
  rintro ds μ Q E ⟨ns, rfl, hb, hl, q⟩
  unfold w_store
  rotate_left 901
  refine Or.inl ⟨_, rfl, ?_⟩
  refine lcLoop_inv (fun rem acc μ' => μ' = μ ∧ ∃ xs ys : List Int, xs ++ ys = ns ∧ acc = xs.map D.int ∧ rem = ys.map D.int) (fun _ _ _ _ => rfl) ?_ ?_ _ _ _ ⟨rfl, [], ns, rfl, rfl, rfl⟩
  · rintro acc μ' ⟨rfl, xs, ys, e, rfl, e3⟩
    have : ys = [] := List.map_eq_nil_iff.mp e3.symm
    subst this
    rw [List.append_nil] at e
    subst e
    rotate_left 901
    refine Or.inl ⟨_, rfl, ?_⟩
    refine forLoop_inv (fun rem ρ μ'' => μ'' = μ' ∧ (∃ ys : List Int, rem = ys.map D.int) ∧ ∃ x s, ρ = [some (.scr (xs.map D.int)), some (.lst (xs.map D.int)), x, some (.int s)] ∧ (rem = [] → xs = [] ∨ (0 ≤ s ∧ s < 2305843009213693951)) ∧ (s = 7 + xs.length ∨ (0 ≤ s ∧ s < 2305843009213693951))) (fun _ _ _ _ => rfl) ?_ ?_ _ _ _ ⟨rfl, ⟨xs, rfl⟩, none, _, rfl, ?_, ?_⟩
    · rintro ρ μ2 ⟨rfl, _, x, s, rfl, hs, hs2⟩
      rotate_left 901
      intro a ha
      rotate_left 901
      refine q a _ ha ⟨xs, 0, 0, 0, s, rfl, hb, by decide, by decide, Nat.two_pow_pos _, by decide, by decide, ?_⟩
      rcases hs rfl with e | e
      · subst e
        rcases hs2 with e | e
        · exact .nat (by simp at e; omega) (by simp at e; omega)
        · exact .nat (by omega) (by omega)
      · exact .nat (by omega) (by omega)
    · rintro d ds ρ μ2 ⟨rfl, ⟨ys, e⟩, x, s, rfl, _, hs⟩ nx hnx
      cases ys with
      | nil => cases e
      | cons y ys =>
        cases e
        rotate_left 901
        have hsz : sizeLine < 2 ^ 60 := by decide
        have hB : Bd 61 s := by
          rcases hs with e | e
          · exact .nat (by omega) (by omega)
          · exact .nat (by omega) (by omega)
        refine i_mulI (hB.mul (show Bd 30 1000003 by unfold Bd; decide) (by decide)) ?_
        rotate_left 901
        refine i_modG (by decide) fun r1 g1 g2 => ?_
        rotate_left 901
        refine i_modG (by decide) fun r2 g3 g4 => ?_
        rotate_left 901
        exact hnx _ _ ⟨rfl, ⟨ys, rfl⟩, _, _, rfl, fun _ => .inr ⟨g3, g4⟩, .inr ⟨g3, g4⟩⟩
    · intro e
      exact .inl (List.map_eq_nil_iff.mp e)
    · exact .inl (by rw [List.length_map])
  · rintro d ds acc μ' ⟨rfl, xs, ys, e, rfl, e3⟩ Z hZ
    cases ys with
    | nil => cases e3
    | cons y ys =>
      cases e3
      have hlen : xs.length + (ys.length + 1) = ns.length := by rw [← e, List.length_append, List.length_cons]
      rotate_left 901
      exact ⟨by rw [List.length_map]; omega, hZ _ _ ⟨rfl, xs ++ [y], ys, by rw [List.append_assoc]; exact e, by rw [List.map_append]; rfl, rfl⟩⟩
end T2


set_option maxRecDepth 100000
set_option maxHeartbeats 4000000
namespace T2
open PySem PySem.Spec PyProof.Rows L2
/-! ### are two answers the same -/
/-- scalars -/
def sc4 : D → Bool
  | .non => true
  | .bl _ => true
  | .int _ => true
  | .str _ => true
  | _ => false
def sameS : D → D → Bool
  | .non, .non => true
  | .bl a, .bl b => decide (a = b)
  | .int a, .int b => decide (a = b)
  | .str a, .str b => decide (a = b)
  | _, _ => false
def sameR (xs ys : List D) : Bool := decide (xs.length = ys.length) && (xs.zip ys).all fun q => sameS q.1 q.2
def sp_same0 : SpD := fun ds μ Q _ => ∃ x y, ds = [x, y] ∧ sc4 x = true ∧ sc4 y = true ∧ Q (.bl (sameS x y)) μ
def sp_same_rows : SpD := fun ds μ Q _ => ∃ xs ys, ds = [.tup xs, .tup ys] ∧ xs.length < 1000 ∧ xs.all sc4 = true ∧ ys.all sc4 = true ∧ Q (.bl (sameR xs ys)) μ
def sp_no : SpD := fun _ _ _ _ => False
def sp_same_dicts : SpD := fun _ _ _ _ => False
/-! _law_same -/
def N_same0 : List Str := ["_law_one", "_law_two"]
def P_same0 : List Str := ["_law_one", "_law_two"]
abbrev w_same0_p0 : WS := (wSeq (wIfS (wOrT (wTru (wIsi .str (wVar 0))) (wTru (wIsi .str (wVar 1)))) (wRet (wAnd (wIsi .str (wVar 0)) (wAnd (wIsi .str (wVar 1)) (wOp gEq (wVar 0) (wVar 1))))) wNext)
  (wSeq (wIfS (wOrT (wTru (wIsi .dict (wVar 0))) (wTru (wIsi .dict (wVar 1)))) (wRet (wAnd (wIsi .dict (wVar 0)) (wAnd (wIsi .dict (wVar 1)) (wCall 2 sp_no (wCons (wVar 0) (wCons (wVar 1) wNil)))))) wNext)
  (wSeq (wIfS (wOrT (wAndT (wTru (wIsi .list (wVar 0))) (wTru (wIsi .list (wVar 1)))) (wAndT (wTru (wIsi .tuple (wVar 0))) (wTru (wIsi .tuple (wVar 1))))) (wRet (wCall 2 sp_no (wCons (wVar 0) (wCons (wVar 1) wNil)))) wNext)
  (wRet (wC (.bl false))))))
def w_same0  : WS := (wSeq (wIfS (wOrT (wTB (wOp gIs (wVar 0) (wC .non))) (wTB (wOp gIs (wVar 1) (wC .non)))) (wRet (wAnd (wOp gIs (wVar 0) (wC .non)) (wOp gIs (wVar 1) (wC .non)))) wNext)
  (wSeq (wIfS (wOrT (wTru (wIsi .bool (wVar 0))) (wTru (wIsi .bool (wVar 1)))) (wRet (wAnd (wIsi .bool (wVar 0)) (wAnd (wIsi .bool (wVar 1)) (wOp gEq (wVar 0) (wVar 1))))) wNext)
  (wSeq (wIfS (wOrT (wTru (wIsi .int (wVar 0))) (wTru (wIsi .int (wVar 1)))) (wRet (wAnd (wIsi .int (wVar 0)) (wAnd (wIsi .int (wVar 1)) (wOp gEq (wVar 0) (wVar 1))))) wNext)
  w_same0_p0)))
def G_same0 : Gam := ⟨[⟨"_law_same_rows", 2, [], false, sp_no⟩, ⟨"_law_same_dicts", 2, [], false, sp_no⟩], [], [], [], []⟩
/-! _law_same -/
def N_same1 : List Str := ["_law_one", "_law_two"]
def P_same1 : List Str := ["_law_one", "_law_two"]
abbrev w_same1_p0 : WS := (wSeq (wIfS (wOrT (wTru (wIsi .str (wVar 0))) (wTru (wIsi .str (wVar 1)))) (wRet (wAnd (wIsi .str (wVar 0)) (wAnd (wIsi .str (wVar 1)) (wOp gEq (wVar 0) (wVar 1))))) wNext)
  (wSeq (wIfS (wOrT (wTru (wIsi .dict (wVar 0))) (wTru (wIsi .dict (wVar 1)))) (wRet (wAnd (wIsi .dict (wVar 0)) (wAnd (wIsi .dict (wVar 1)) (wCall 2 sp_no (wCons (wVar 0) (wCons (wVar 1) wNil)))))) wNext)
  (wSeq (wIfS (wOrT (wAndT (wTru (wIsi .list (wVar 0))) (wTru (wIsi .list (wVar 1)))) (wAndT (wTru (wIsi .tuple (wVar 0))) (wTru (wIsi .tuple (wVar 1))))) (wRet (wCall 2 sp_same_rows (wCons (wVar 0) (wCons (wVar 1) wNil)))) wNext)
  (wRet (wC (.bl false))))))
def w_same1  : WS := (wSeq (wIfS (wOrT (wTB (wOp gIs (wVar 0) (wC .non))) (wTB (wOp gIs (wVar 1) (wC .non)))) (wRet (wAnd (wOp gIs (wVar 0) (wC .non)) (wOp gIs (wVar 1) (wC .non)))) wNext)
  (wSeq (wIfS (wOrT (wTru (wIsi .bool (wVar 0))) (wTru (wIsi .bool (wVar 1)))) (wRet (wAnd (wIsi .bool (wVar 0)) (wAnd (wIsi .bool (wVar 1)) (wOp gEq (wVar 0) (wVar 1))))) wNext)
  (wSeq (wIfS (wOrT (wTru (wIsi .int (wVar 0))) (wTru (wIsi .int (wVar 1)))) (wRet (wAnd (wIsi .int (wVar 0)) (wAnd (wIsi .int (wVar 1)) (wOp gEq (wVar 0) (wVar 1))))) wNext)
  w_same1_p0)))
def G_same1 : Gam := ⟨[⟨"_law_same_rows", 2, [], false, sp_same_rows⟩, ⟨"_law_same_dicts", 2, [], false, sp_no⟩], [], [], [], []⟩
/-! _law_same_rows -/
def N_same_rows : List Str := ["_law_one", "_law_two", "_law_k"]
def P_same_rows : List Str := ["_law_one", "_law_two"]
def w_same_rows  : WS := (wSeq (wIfS (wTB (wOp gNe (wCB gLen (wCons (wVar 0) wNil)) (wCB gLen (wCons (wVar 1) wNil)))) (wRet (wC (.bl false))) wNext)
  (wSeq (wFor (wRng1 (wCB gLen (wCons (wVar 0) wNil))) (wgName 2) (wIfS (wNotT (wTru (wCall 2 sp_same0 (wCons (wOp gIx (wVar 0) (wVar 2)) (wCons (wOp gIx (wVar 1) (wVar 2)) wNil))))) (wRet (wC (.bl false))) wNext))
  (wRet (wC (.bl true)))))
def G_same_rows : Gam := ⟨[⟨"_law_same", 2, [], false, sp_same0⟩], [], [], [], []⟩
theorem pf_same0 : ∀ ds μ Q E, sp_same0 ds μ Q E → w_same0 (endK Q E) (startD N_same0 ds) μ := by
  rintro ds μ Q E ⟨x, y, rfl, hx, hy, q⟩
  unfold w_same0
  cases x <;> first | (cases hx; done) | skip
  all_goals (cases y <;> first | (cases hy; done) | skip)
  all_goals rotate_left 901
  all_goals first | exact q | (refine i_eqB ?_; rotate_left 901; exact q) | (refine i_eqT ?_; rotate_left 901; exact q) | skip
def sp_same1 : SpD := fun ds μ Q _ => ∃ xs ys, ds = [.tup xs, .tup ys] ∧ xs.length < 1000 ∧ xs.all sc4 = true ∧ ys.all sc4 = true ∧ Q (.bl (sameR xs ys)) μ
theorem pf_same1 : ∀ ds μ Q E, sp_same1 ds μ Q E → w_same1 (endK Q E) (startD N_same1 ds) μ := by
  rintro ds μ Q E ⟨xs, ys, rfl, hl, hx, hy, q⟩
  unfold w_same1
  rotate_left 901
  refine ⟨rfl, xs, ys, rfl, hl, hx, hy, ?_⟩
  rotate_left 901
  exact q
theorem pf_same_rows : ∀ ds μ Q E, sp_same_rows ds μ Q E → w_same_rows (endK Q E) (startD N_same_rows ds) μ := by
  rintro ds μ Q E ⟨xs, ys, rfl, hl, hx, hy, q⟩
  unfold w_same_rows
  rotate_left 901
  refine i_lenL rfl ?_
  rotate_left 901
  refine i_lenL rfl ?_
  rotate_left 901
  · have e : sameR xs ys = false := by
      unfold sameR
      rw [decide_eq_false fun z => h (by rw [z])]
      rfl
    rw [e] at q
    exact q
  · have hlen : xs.length = ys.length := Int.ofNat.inj h
    refine i_lenL rfl ?_
    refine ⟨_, rfl, by omega, by omega, ?_⟩
    refine forLoop_inv (fun rem ρ μ' => μ' = μ ∧ ∃ i, i ≤ xs.length ∧ rem = (rngD 0 xs.length).drop i ∧ (∃ x, ρ = [some (.tup xs), some (.tup ys), x]) ∧ sameR (xs.take i) (ys.take i) = true) (fun _ _ _ _ => trivial) ?_ ?_ _ _ _ ⟨rfl, 0, Nat.zero_le _, rfl, ⟨none, rfl⟩, rfl⟩
    · rintro ρ μ' ⟨rfl, i, hi, e, ⟨x, rfl⟩, hs⟩
      rotate_left 901
      have hi2 := rng_nil e
      rw [List.take_of_length_le hi2, List.take_of_length_le (by omega)] at hs
      rw [hs] at q
      exact q
    · rintro d ds ρ μ' ⟨rfl, i, hi, e, ⟨x, rfl⟩, hs⟩ nx hnx
      obtain ⟨hi2, e1, e2⟩ := rng_cons e
      rw [Int.zero_add] at e1
      subst e1 e2
      obtain ⟨hx1, ex⟩ := atI_ok (l := xs) (i := (i : Int)) (by omega) (by omega)
      obtain ⟨hy1, ey⟩ := atI_ok (l := ys) (i := (i : Int)) (by omega) (by omega)
      rotate_left 901
      refine i_ixT ex ?_
      rotate_left 901
      refine i_ixT ey ?_
      rotate_left 901
      have hxi : sc4 xs[i] = true := List.all_eq_true.mp hx _ (List.getElem_mem _)
      have hyi : sc4 (ys[i]'(by omega)) = true := List.all_eq_true.mp hy _ (List.getElem_mem _)
      refine ⟨rfl, _, _, rfl, hxi, hyi, ?_⟩
      have et : sameR (xs.take (i + 1)) (ys.take (i + 1)) = sameS xs[i] (ys[i]'(by omega)) := by
        have hs' := hs
        unfold sameR at hs' ⊢
        rw [Bool.and_eq_true] at hs'
        rw [List.take_succ_eq_append_getElem hi2, List.take_succ_eq_append_getElem (show i < ys.length by omega), List.zip_append (by rw [List.length_take, List.length_take]; omega), List.all_append, hs'.2]
        rw [decide_eq_true (by rw [List.length_append, List.length_append, List.length_take, List.length_take]; simp; omega)]
        simp
      cases hb : sameS xs[i] (ys[i]'(by omega)) with
      | true =>
        have hb' : sameS (xs[(i : Int).toNat]'hx1) (ys[(i : Int).toNat]'hy1) = true := hb
        rw [hb']
        rotate_left 901
        exact hnx _ _ ⟨rfl, i + 1, hi2, rfl, ⟨_, rfl⟩, by rw [et, hb]⟩
      | false =>
        have hb' : sameS (xs[(i : Int).toNat]'hx1) (ys[(i : Int).toNat]'hy1) = false := hb
        rw [hb']
        rotate_left 901
        have e : sameR xs ys = false := by
          cases z : sameR xs ys with
          | false => rfl
          | true =>
            unfold sameR at z
            rw [Bool.and_eq_true] at z
            have := List.all_eq_true.mp z.2 (xs[i], ys[i]'(by omega)) (by
              have hz : i < (xs.zip ys).length := by rw [List.length_zip]; omega
              have := List.getElem_mem hz
              rw [List.getElem_zip] at this
              exact this)
            rw [hb] at this
            cases this
        rw [e] at q
        exact q
end T2


set_option maxRecDepth 100000
set_option maxHeartbeats 4000000
namespace T2
open PySem PySem.Spec PyProof.Rows L2
/-! ### are two answers the same: rows within rows -/
/-- a row: a tuple or not, its items -/
def seqK (μ : Mu) : D → Option (Bool × List D)
  | .tup xs => some (true, xs)
  | .lst xs => some (false, xs)
  | .raw a => match μ a with
    | some (.lst xs) => some (false, xs)
    | _ => none
  | _ => none
def rowsM (f : D → D → Option Bool) : List D → List D → Option Bool
  | [], [] => some true
  | x :: xs, y :: ys => match f x y, rowsM f xs ys with
    | some b, some c => some (b && c)
    | _, _ => none
  | _, _ => some false
def rowsL (f : D → D → Option Bool) (xs ys : List D) : Option Bool := if xs.length = ys.length then (if xs.length < 1000000 then rowsM f xs ys else none) else some false
def sameM (μ : Mu) : Nat → D → D → Option Bool
  | 0, x, y => if (sc4 x && sc4 y) = true then some (sameS x y) else none
  | n + 1, x, y => if (sc4 x && sc4 y) = true then some (sameS x y) else match seqK μ x, seqK μ y with
    | some (t, xs), some (u, ys) => if t = u then rowsL (sameM μ n) xs ys else some false
    | some _, none => if sc4 y = true then some false else none
    | none, some _ => if sc4 x = true then some false else none
    | none, none => none
def sp_sameN (n : Nat) : SpD := fun ds μ Q _ => ∃ x y b, ds = [x, y] ∧ sameM μ n x y = some b ∧ Q (.bl b) μ
def sp_rowsN (n : Nat) : SpD := fun ds μ Q _ => ∃ x y t u xs ys b, ds = [x, y] ∧ seqK μ x = some (t, xs) ∧ seqK μ y = some (u, ys) ∧ rowsL (sameM μ n) xs ys = some b ∧ Q (.bl b) μ
def sp_rowsP : Nat → SpD
  | 0 => sp_no
  | n + 1 => sp_rowsN n
/-! _law_same -/
def N_same_atN : List Str := ["_law_one", "_law_two"]
def P_same_atN : List Str := ["_law_one", "_law_two"]
def w_same_atN (n : Nat) : WS := (wSeq (wIfS (wOrT (wTB (wOp gIs (wVar 0) (wC .non))) (wTB (wOp gIs (wVar 1) (wC .non)))) (wRet (wAnd (wOp gIs (wVar 0) (wC .non)) (wOp gIs (wVar 1) (wC .non)))) wNext)
  (wSeq (wIfS (wOrT (wTru (wIsi .bool (wVar 0))) (wTru (wIsi .bool (wVar 1)))) (wRet (wAnd (wIsi .bool (wVar 0)) (wAnd (wIsi .bool (wVar 1)) (wOp gEq (wVar 0) (wVar 1))))) wNext)
  (wSeq (wIfS (wOrT (wTru (wIsi .int (wVar 0))) (wTru (wIsi .int (wVar 1)))) (wRet (wAnd (wIsi .int (wVar 0)) (wAnd (wIsi .int (wVar 1)) (wOp gEq (wVar 0) (wVar 1))))) wNext)
  (wSeq (wIfS (wOrT (wTru (wIsi .str (wVar 0))) (wTru (wIsi .str (wVar 1)))) (wRet (wAnd (wIsi .str (wVar 0)) (wAnd (wIsi .str (wVar 1)) (wOp gEq (wVar 0) (wVar 1))))) wNext)
  (wSeq (wIfS (wOrT (wTru (wIsi .dict (wVar 0))) (wTru (wIsi .dict (wVar 1)))) (wRet (wAnd (wIsi .dict (wVar 0)) (wAnd (wIsi .dict (wVar 1)) (wCall 2 sp_no (wCons (wVar 0) (wCons (wVar 1) wNil)))))) wNext)
  (wSeq (wIfS (wOrT (wAndT (wTru (wIsi .list (wVar 0))) (wTru (wIsi .list (wVar 1)))) (wAndT (wTru (wIsi .tuple (wVar 0))) (wTru (wIsi .tuple (wVar 1))))) (wRet (wCall 2 (sp_rowsP n) (wCons (wVar 0) (wCons (wVar 1) wNil)))) wNext)
  (wRet (wC (.bl false)))))))))
/-! _law_same_rows -/
def N_rowsN : List Str := ["_law_one", "_law_two", "_law_k"]
def P_rowsN : List Str := ["_law_one", "_law_two"]
def w_rowsN (n : Nat) : WS := (wSeq (wIfS (wTB (wOp gNe (wCB gLen (wCons (wVar 0) wNil)) (wCB gLen (wCons (wVar 1) wNil)))) (wRet (wC (.bl false))) wNext)
  (wSeq (wFor (wRng1 (wCB gLen (wCons (wVar 0) wNil))) (wgName 2) (wIfS (wNotT (wTru (wCall 2 (sp_sameN n) (wCons (wOp gIx (wVar 0) (wVar 2)) (wCons (wOp gIx (wVar 1) (wVar 2)) wNil))))) (wRet (wC (.bl false))) wNext))
  (wRet (wC (.bl true)))))
theorem seq_cases {μ : Mu} {x : D} {t : Bool} {xs : List D} (h : seqK μ x = some (t, xs)) : (x = .tup xs ∧ t = true) ∨ (x = .lst xs ∧ t = false) ∨ (∃ a, x = .raw a ∧ μ a = some (.lst xs) ∧ t = false) := by
  unfold seqK at h
  split at h
  · cases h; exact .inl ⟨rfl, rfl⟩
  · cases h; exact .inr (.inl ⟨rfl, rfl⟩)
  · split at h
    · rename_i e; cases h; exact .inr (.inr ⟨_, rfl, e, rfl⟩)
    · cases h
  · cases h
theorem same_cases {μ : Mu} {n : Nat} {x y : D} {b : Bool} (h : sameM μ n x y = some b) : (sc4 x = true ∧ sc4 y = true ∧ b = sameS x y) ∨
    (∃ m t xs u ys, n = m + 1 ∧ seqK μ x = some (t, xs) ∧ seqK μ y = some (u, ys) ∧ ((t = u ∧ rowsL (sameM μ m) xs ys = some b) ∨ (t ≠ u ∧ b = false))) ∨
    (∃ t xs, seqK μ x = some (t, xs) ∧ sc4 y = true ∧ b = false) ∨ (∃ t ys, sc4 x = true ∧ seqK μ y = some (t, ys) ∧ b = false) := by
  cases n with
  | zero =>
    unfold sameM at h
    split at h
    · rename_i e
      cases h
      rw [Bool.and_eq_true] at e
      exact .inl ⟨e.1, e.2, rfl⟩
    · cases h
  | succ n =>
    unfold sameM at h
    split at h
    · rename_i e
      cases h
      rw [Bool.and_eq_true] at e
      exact .inl ⟨e.1, e.2, rfl⟩
    · split at h
      · rename_i t xs u ys e1 e2
        refine .inr (.inl ⟨n, t, xs, u, ys, rfl, e1, e2, ?_⟩)
        split at h
        · rename_i e; exact .inl ⟨e, h⟩
        · rename_i e; cases h; exact .inr ⟨e, rfl⟩
      · rename_i t e1 e2
        split at h
        · rename_i e; cases h; exact .inr (.inr (.inl ⟨_, _, e1, e, rfl⟩))
        · cases h
      · rename_i t e1 e2
        split at h
        · rename_i e; cases h; exact .inr (.inr (.inr ⟨_, _, e, e2, rfl⟩))
        · cases h
      · cases h
theorem pf_sameN (n : Nat) : ∀ ds μ Q E, sp_sameN n ds μ Q E → w_same_atN n (endK Q E) (startD N_same_atN ds) μ := by
  rintro ds μ Q E ⟨x, y, b, rfl, hs, q⟩
  unfold w_same_atN
  rcases same_cases hs with ⟨hx, hy, rfl⟩ | ⟨m, t, xs, u, ys, rfl, hx, hy, hb⟩ | ⟨t, xs, hx, hy, rfl⟩ | ⟨t, ys, hx, hy, rfl⟩
  · cases x <;> first | (cases hx; done) | skip
    all_goals (cases y <;> first | (cases hy; done) | skip)
    all_goals rotate_left 901
    all_goals exact q
  · rcases seq_cases hx with ⟨rfl, rfl⟩ | ⟨rfl, rfl⟩ | ⟨a, rfl, ha, rfl⟩
    all_goals rcases seq_cases hy with ⟨rfl, rfl⟩ | ⟨rfl, rfl⟩ | ⟨a', rfl, ha', rfl⟩
    all_goals rotate_left 901
    all_goals rcases hb with ⟨hb, hr⟩ | ⟨hb, rfl⟩
    all_goals first
      | (cases hb; done)
      | exact absurd rfl hb
      | exact q
      | (refine ⟨rfl, _, _, _, _, _, _, _, rfl, hx, hy, hr, ?_⟩
         rotate_left 901
         exact q)
  · cases y <;> first | (cases hy; done) | skip
    all_goals rcases seq_cases hx with ⟨rfl, rfl⟩ | ⟨rfl, rfl⟩ | ⟨a, rfl, ha, rfl⟩
    all_goals rotate_left 901
    all_goals exact q
  · cases x <;> first | (cases hx; done) | skip
    all_goals rcases seq_cases hy with ⟨rfl, rfl⟩ | ⟨rfl, rfl⟩ | ⟨a, rfl, ha, rfl⟩
    all_goals rotate_left 901
    all_goals exact q
end T2


set_option maxRecDepth 100000
set_option maxHeartbeats 4000000
namespace T2
open PySem PySem.Spec PyProof.Rows L2
theorem seqK_getS {μ : Mu} {x : D} {t : Bool} {xs : List D} (h : seqK μ x = some (t, xs)) : getS μ x = some xs := by
  rcases seq_cases h with ⟨rfl, rfl⟩ | ⟨rfl, rfl⟩ | ⟨a, rfl, ha, rfl⟩
  · rfl
  · rfl
  · exact getS_raw ha
/-- from the i-th item on -/
theorem rowsM_drop {f : D → D → Option Bool} {xs ys : List D} {i : Nat} {b : Bool} (hl : xs.length = ys.length) (hi : i < xs.length) (h : rowsM f (xs.drop i) (ys.drop i) = some b) :
    ∃ c r, f (xs[i]) (ys[i]'(by omega)) = some c ∧ rowsM f (xs.drop (i + 1)) (ys.drop (i + 1)) = some r ∧ b = (c && r) := by
  rw [List.drop_eq_getElem_cons hi, List.drop_eq_getElem_cons (show i < ys.length by omega)] at h
  unfold rowsM at h
  split at h
  · rename_i c r h1 h2
    cases h
    exact ⟨c, r, h1, h2, rfl⟩
  · cases h
theorem pf_rowsN (n : Nat) : ∀ ds μ Q E, sp_rowsN n ds μ Q E → w_rowsN n (endK Q E) (startD N_rowsN ds) μ := by
  rintro ds μ Q E ⟨x, y, t, u, xs, ys, b, rfl, hx, hy, hb, q⟩
  unfold rowsL at hb
  have gx := seqK_getS hx
  have gy := seqK_getS hy
  unfold w_rowsN
  rotate_left 901
  refine i_lenL gx ?_
  rotate_left 901
  refine i_lenL gy ?_
  rotate_left 901
  · rw [if_neg (fun z => h (by rw [z]))] at hb
    cases hb
    exact q
  · have hl : xs.length = ys.length := Int.ofNat.inj h
    rw [if_pos hl] at hb
    have hl1 : xs.length < 1000000 := by
      split at hb
      · assumption
      · cases hb
    rw [if_pos hl1] at hb
    refine i_lenL gx ?_
    refine ⟨_, rfl, by omega, by omega, ?_⟩
    refine forLoop_inv (fun rem ρ μ' => μ' = μ ∧ ∃ i, i ≤ xs.length ∧ rem = (rngD 0 xs.length).drop i ∧ (∃ z, ρ = [some x, some y, z]) ∧ rowsM (sameM μ n) (xs.drop i) (ys.drop i) = some b) (fun _ _ _ _ => trivial) ?_ ?_ _ _ _ ⟨rfl, 0, Nat.zero_le _, rfl, ⟨none, rfl⟩, hb⟩
    · rintro ρ μ' ⟨rfl, i, hi, e, ⟨z, rfl⟩, hs⟩
      rotate_left 901
      have hi2 := rng_nil e
      rw [List.drop_of_length_le hi2, List.drop_of_length_le (by omega)] at hs
      cases hs
      exact q
    · rintro d ds ρ μ' ⟨rfl, i, hi, e, ⟨z, rfl⟩, hs⟩ nx hnx
      obtain ⟨hi2, e1, e2⟩ := rng_cons e
      rw [Int.zero_add] at e1
      subst e1 e2
      obtain ⟨c, r, h1, h2, rfl⟩ := rowsM_drop hl hi2 hs
      obtain ⟨hx1, ex⟩ := atI_ok (l := xs) (i := (i : Int)) (by omega) (by omega)
      obtain ⟨hy1, ey⟩ := atI_ok (l := ys) (i := (i : Int)) (by omega) (by omega)
      rotate_left 901
      refine i_ix gx ex ?_
      rotate_left 901
      refine i_ix gy ey ?_
      rotate_left 901
      refine ⟨rfl, _, _, c, rfl, h1, ?_⟩
      cases c
      · rotate_left 901
        rw [Bool.false_and] at q
        exact q
      · rotate_left 901
        exact hnx _ _ ⟨rfl, i + 1, hi2, rfl, ⟨_, rfl⟩, by rw [Bool.true_and]; exact h2⟩
end T2


set_option maxRecDepth 100000
set_option maxHeartbeats 4000000
namespace T2
open PySem PySem.Spec PyProof.Rows L2
def sp_same_a0 : SpD := sp_sameN 0
def sp_rows_a0 : SpD := sp_rowsN 0
/-! _law_same -/
def N_same_a0 : List Str := ["_law_one", "_law_two"]
def P_same_a0 : List Str := ["_law_one", "_law_two"]
abbrev w_same_a0_p0 : WS := (wSeq (wIfS (wOrT (wTru (wIsi .str (wVar 0))) (wTru (wIsi .str (wVar 1)))) (wRet (wAnd (wIsi .str (wVar 0)) (wAnd (wIsi .str (wVar 1)) (wOp gEq (wVar 0) (wVar 1))))) wNext)
  (wSeq (wIfS (wOrT (wTru (wIsi .dict (wVar 0))) (wTru (wIsi .dict (wVar 1)))) (wRet (wAnd (wIsi .dict (wVar 0)) (wAnd (wIsi .dict (wVar 1)) (wCall 2 sp_no (wCons (wVar 0) (wCons (wVar 1) wNil)))))) wNext)
  (wSeq (wIfS (wOrT (wAndT (wTru (wIsi .list (wVar 0))) (wTru (wIsi .list (wVar 1)))) (wAndT (wTru (wIsi .tuple (wVar 0))) (wTru (wIsi .tuple (wVar 1))))) (wRet (wCall 2 sp_no (wCons (wVar 0) (wCons (wVar 1) wNil)))) wNext)
  (wRet (wC (.bl false))))))
def w_same_a0  : WS := (wSeq (wIfS (wOrT (wTB (wOp gIs (wVar 0) (wC .non))) (wTB (wOp gIs (wVar 1) (wC .non)))) (wRet (wAnd (wOp gIs (wVar 0) (wC .non)) (wOp gIs (wVar 1) (wC .non)))) wNext)
  (wSeq (wIfS (wOrT (wTru (wIsi .bool (wVar 0))) (wTru (wIsi .bool (wVar 1)))) (wRet (wAnd (wIsi .bool (wVar 0)) (wAnd (wIsi .bool (wVar 1)) (wOp gEq (wVar 0) (wVar 1))))) wNext)
  (wSeq (wIfS (wOrT (wTru (wIsi .int (wVar 0))) (wTru (wIsi .int (wVar 1)))) (wRet (wAnd (wIsi .int (wVar 0)) (wAnd (wIsi .int (wVar 1)) (wOp gEq (wVar 0) (wVar 1))))) wNext)
  w_same_a0_p0)))
def G_same_a0 : Gam := ⟨[⟨"_law_same_rows", 2, [], false, sp_no⟩, ⟨"_law_same_dicts", 2, [], false, sp_no⟩], [], [], [], []⟩
/-! _law_same_rows -/
def N_rows_a0 : List Str := ["_law_one", "_law_two", "_law_k"]
def P_rows_a0 : List Str := ["_law_one", "_law_two"]
def w_rows_a0  : WS := (wSeq (wIfS (wTB (wOp gNe (wCB gLen (wCons (wVar 0) wNil)) (wCB gLen (wCons (wVar 1) wNil)))) (wRet (wC (.bl false))) wNext)
  (wSeq (wFor (wRng1 (wCB gLen (wCons (wVar 0) wNil))) (wgName 2) (wIfS (wNotT (wTru (wCall 2 sp_same_a0 (wCons (wOp gIx (wVar 0) (wVar 2)) (wCons (wOp gIx (wVar 1) (wVar 2)) wNil))))) (wRet (wC (.bl false))) wNext))
  (wRet (wC (.bl true)))))
def G_rows_a0 : Gam := ⟨[⟨"_law_same", 2, [], false, sp_same_a0⟩], [], [], [], []⟩
theorem pf_same_a0 : ∀ ds μ Q E, sp_same_a0 ds μ Q E → w_same_a0 (endK Q E) (startD N_same_a0 ds) μ := pf_sameN 0
theorem pf_rows_a0 : ∀ ds μ Q E, sp_rows_a0 ds μ Q E → w_rows_a0 (endK Q E) (startD N_rows_a0 ds) μ := pf_rowsN 0
theorem ln_same_a0 : ∀ ds μ Q E, sp_same_a0 ds μ Q E → ds.length = P_same_a0.length := by
  rintro ds μ Q E ⟨x, y, b, rfl, _⟩
  rfl
theorem ln_rows_a0 : ∀ ds μ Q E, sp_rows_a0 ds μ Q E → ds.length = P_rows_a0.length := by
  rintro ds μ Q E ⟨x, y, t, u, xs, ys, b, rfl, _⟩
  rfl
def sp_same_a1 : SpD := sp_sameN 1
def sp_rows_a1 : SpD := sp_rowsN 1
/-! _law_same -/
def N_same_a1 : List Str := ["_law_one", "_law_two"]
def P_same_a1 : List Str := ["_law_one", "_law_two"]
abbrev w_same_a1_p0 : WS := (wSeq (wIfS (wOrT (wTru (wIsi .str (wVar 0))) (wTru (wIsi .str (wVar 1)))) (wRet (wAnd (wIsi .str (wVar 0)) (wAnd (wIsi .str (wVar 1)) (wOp gEq (wVar 0) (wVar 1))))) wNext)
  (wSeq (wIfS (wOrT (wTru (wIsi .dict (wVar 0))) (wTru (wIsi .dict (wVar 1)))) (wRet (wAnd (wIsi .dict (wVar 0)) (wAnd (wIsi .dict (wVar 1)) (wCall 2 sp_no (wCons (wVar 0) (wCons (wVar 1) wNil)))))) wNext)
  (wSeq (wIfS (wOrT (wAndT (wTru (wIsi .list (wVar 0))) (wTru (wIsi .list (wVar 1)))) (wAndT (wTru (wIsi .tuple (wVar 0))) (wTru (wIsi .tuple (wVar 1))))) (wRet (wCall 2 sp_rows_a0 (wCons (wVar 0) (wCons (wVar 1) wNil)))) wNext)
  (wRet (wC (.bl false))))))
def w_same_a1  : WS := (wSeq (wIfS (wOrT (wTB (wOp gIs (wVar 0) (wC .non))) (wTB (wOp gIs (wVar 1) (wC .non)))) (wRet (wAnd (wOp gIs (wVar 0) (wC .non)) (wOp gIs (wVar 1) (wC .non)))) wNext)
  (wSeq (wIfS (wOrT (wTru (wIsi .bool (wVar 0))) (wTru (wIsi .bool (wVar 1)))) (wRet (wAnd (wIsi .bool (wVar 0)) (wAnd (wIsi .bool (wVar 1)) (wOp gEq (wVar 0) (wVar 1))))) wNext)
  (wSeq (wIfS (wOrT (wTru (wIsi .int (wVar 0))) (wTru (wIsi .int (wVar 1)))) (wRet (wAnd (wIsi .int (wVar 0)) (wAnd (wIsi .int (wVar 1)) (wOp gEq (wVar 0) (wVar 1))))) wNext)
  w_same_a1_p0)))
def G_same_a1 : Gam := ⟨[⟨"_law_same_rows", 2, [], false, sp_rows_a0⟩, ⟨"_law_same_dicts", 2, [], false, sp_no⟩], [], [], [], []⟩
/-! _law_same_rows -/
def N_rows_a1 : List Str := ["_law_one", "_law_two", "_law_k"]
def P_rows_a1 : List Str := ["_law_one", "_law_two"]
def w_rows_a1  : WS := (wSeq (wIfS (wTB (wOp gNe (wCB gLen (wCons (wVar 0) wNil)) (wCB gLen (wCons (wVar 1) wNil)))) (wRet (wC (.bl false))) wNext)
  (wSeq (wFor (wRng1 (wCB gLen (wCons (wVar 0) wNil))) (wgName 2) (wIfS (wNotT (wTru (wCall 2 sp_same_a1 (wCons (wOp gIx (wVar 0) (wVar 2)) (wCons (wOp gIx (wVar 1) (wVar 2)) wNil))))) (wRet (wC (.bl false))) wNext))
  (wRet (wC (.bl true)))))
def G_rows_a1 : Gam := ⟨[⟨"_law_same", 2, [], false, sp_same_a1⟩], [], [], [], []⟩
theorem pf_same_a1 : ∀ ds μ Q E, sp_same_a1 ds μ Q E → w_same_a1 (endK Q E) (startD N_same_a1 ds) μ := pf_sameN 1
theorem pf_rows_a1 : ∀ ds μ Q E, sp_rows_a1 ds μ Q E → w_rows_a1 (endK Q E) (startD N_rows_a1 ds) μ := pf_rowsN 1
theorem ln_same_a1 : ∀ ds μ Q E, sp_same_a1 ds μ Q E → ds.length = P_same_a1.length := by
  rintro ds μ Q E ⟨x, y, b, rfl, _⟩
  rfl
theorem ln_rows_a1 : ∀ ds μ Q E, sp_rows_a1 ds μ Q E → ds.length = P_rows_a1.length := by
  rintro ds μ Q E ⟨x, y, t, u, xs, ys, b, rfl, _⟩
  rfl
def sp_same_a2 : SpD := sp_sameN 2
def sp_rows_a2 : SpD := sp_rowsN 2
/-! _law_same -/
def N_same_a2 : List Str := ["_law_one", "_law_two"]
def P_same_a2 : List Str := ["_law_one", "_law_two"]
abbrev w_same_a2_p0 : WS := (wSeq (wIfS (wOrT (wTru (wIsi .str (wVar 0))) (wTru (wIsi .str (wVar 1)))) (wRet (wAnd (wIsi .str (wVar 0)) (wAnd (wIsi .str (wVar 1)) (wOp gEq (wVar 0) (wVar 1))))) wNext)
  (wSeq (wIfS (wOrT (wTru (wIsi .dict (wVar 0))) (wTru (wIsi .dict (wVar 1)))) (wRet (wAnd (wIsi .dict (wVar 0)) (wAnd (wIsi .dict (wVar 1)) (wCall 2 sp_no (wCons (wVar 0) (wCons (wVar 1) wNil)))))) wNext)
  (wSeq (wIfS (wOrT (wAndT (wTru (wIsi .list (wVar 0))) (wTru (wIsi .list (wVar 1)))) (wAndT (wTru (wIsi .tuple (wVar 0))) (wTru (wIsi .tuple (wVar 1))))) (wRet (wCall 2 sp_rows_a1 (wCons (wVar 0) (wCons (wVar 1) wNil)))) wNext)
  (wRet (wC (.bl false))))))
def w_same_a2  : WS := (wSeq (wIfS (wOrT (wTB (wOp gIs (wVar 0) (wC .non))) (wTB (wOp gIs (wVar 1) (wC .non)))) (wRet (wAnd (wOp gIs (wVar 0) (wC .non)) (wOp gIs (wVar 1) (wC .non)))) wNext)
  (wSeq (wIfS (wOrT (wTru (wIsi .bool (wVar 0))) (wTru (wIsi .bool (wVar 1)))) (wRet (wAnd (wIsi .bool (wVar 0)) (wAnd (wIsi .bool (wVar 1)) (wOp gEq (wVar 0) (wVar 1))))) wNext)
  (wSeq (wIfS (wOrT (wTru (wIsi .int (wVar 0))) (wTru (wIsi .int (wVar 1)))) (wRet (wAnd (wIsi .int (wVar 0)) (wAnd (wIsi .int (wVar 1)) (wOp gEq (wVar 0) (wVar 1))))) wNext)
  w_same_a2_p0)))
def G_same_a2 : Gam := ⟨[⟨"_law_same_rows", 2, [], false, sp_rows_a1⟩, ⟨"_law_same_dicts", 2, [], false, sp_no⟩], [], [], [], []⟩
/-! _law_same_rows -/
def N_rows_a2 : List Str := ["_law_one", "_law_two", "_law_k"]
def P_rows_a2 : List Str := ["_law_one", "_law_two"]
def w_rows_a2  : WS := (wSeq (wIfS (wTB (wOp gNe (wCB gLen (wCons (wVar 0) wNil)) (wCB gLen (wCons (wVar 1) wNil)))) (wRet (wC (.bl false))) wNext)
  (wSeq (wFor (wRng1 (wCB gLen (wCons (wVar 0) wNil))) (wgName 2) (wIfS (wNotT (wTru (wCall 2 sp_same_a2 (wCons (wOp gIx (wVar 0) (wVar 2)) (wCons (wOp gIx (wVar 1) (wVar 2)) wNil))))) (wRet (wC (.bl false))) wNext))
  (wRet (wC (.bl true)))))
def G_rows_a2 : Gam := ⟨[⟨"_law_same", 2, [], false, sp_same_a2⟩], [], [], [], []⟩
theorem pf_same_a2 : ∀ ds μ Q E, sp_same_a2 ds μ Q E → w_same_a2 (endK Q E) (startD N_same_a2 ds) μ := pf_sameN 2
theorem pf_rows_a2 : ∀ ds μ Q E, sp_rows_a2 ds μ Q E → w_rows_a2 (endK Q E) (startD N_rows_a2 ds) μ := pf_rowsN 2
theorem ln_same_a2 : ∀ ds μ Q E, sp_same_a2 ds μ Q E → ds.length = P_same_a2.length := by
  rintro ds μ Q E ⟨x, y, b, rfl, _⟩
  rfl
theorem ln_rows_a2 : ∀ ds μ Q E, sp_rows_a2 ds μ Q E → ds.length = P_rows_a2.length := by
  rintro ds μ Q E ⟨x, y, t, u, xs, ys, b, rfl, _⟩
  rfl
def sp_same_a3 : SpD := sp_sameN 3
def sp_rows_a3 : SpD := sp_rowsN 3
/-! _law_same -/
def N_same_a3 : List Str := ["_law_one", "_law_two"]
def P_same_a3 : List Str := ["_law_one", "_law_two"]
abbrev w_same_a3_p0 : WS := (wSeq (wIfS (wOrT (wTru (wIsi .str (wVar 0))) (wTru (wIsi .str (wVar 1)))) (wRet (wAnd (wIsi .str (wVar 0)) (wAnd (wIsi .str (wVar 1)) (wOp gEq (wVar 0) (wVar 1))))) wNext)
  (wSeq (wIfS (wOrT (wTru (wIsi .dict (wVar 0))) (wTru (wIsi .dict (wVar 1)))) (wRet (wAnd (wIsi .dict (wVar 0)) (wAnd (wIsi .dict (wVar 1)) (wCall 2 sp_no (wCons (wVar 0) (wCons (wVar 1) wNil)))))) wNext)
  (wSeq (wIfS (wOrT (wAndT (wTru (wIsi .list (wVar 0))) (wTru (wIsi .list (wVar 1)))) (wAndT (wTru (wIsi .tuple (wVar 0))) (wTru (wIsi .tuple (wVar 1))))) (wRet (wCall 2 sp_rows_a2 (wCons (wVar 0) (wCons (wVar 1) wNil)))) wNext)
  (wRet (wC (.bl false))))))
def w_same_a3  : WS := (wSeq (wIfS (wOrT (wTB (wOp gIs (wVar 0) (wC .non))) (wTB (wOp gIs (wVar 1) (wC .non)))) (wRet (wAnd (wOp gIs (wVar 0) (wC .non)) (wOp gIs (wVar 1) (wC .non)))) wNext)
  (wSeq (wIfS (wOrT (wTru (wIsi .bool (wVar 0))) (wTru (wIsi .bool (wVar 1)))) (wRet (wAnd (wIsi .bool (wVar 0)) (wAnd (wIsi .bool (wVar 1)) (wOp gEq (wVar 0) (wVar 1))))) wNext)
  (wSeq (wIfS (wOrT (wTru (wIsi .int (wVar 0))) (wTru (wIsi .int (wVar 1)))) (wRet (wAnd (wIsi .int (wVar 0)) (wAnd (wIsi .int (wVar 1)) (wOp gEq (wVar 0) (wVar 1))))) wNext)
  w_same_a3_p0)))
def G_same_a3 : Gam := ⟨[⟨"_law_same_rows", 2, [], false, sp_rows_a2⟩, ⟨"_law_same_dicts", 2, [], false, sp_no⟩], [], [], [], []⟩
/-! _law_same_rows -/
def N_rows_a3 : List Str := ["_law_one", "_law_two", "_law_k"]
def P_rows_a3 : List Str := ["_law_one", "_law_two"]
def w_rows_a3  : WS := (wSeq (wIfS (wTB (wOp gNe (wCB gLen (wCons (wVar 0) wNil)) (wCB gLen (wCons (wVar 1) wNil)))) (wRet (wC (.bl false))) wNext)
  (wSeq (wFor (wRng1 (wCB gLen (wCons (wVar 0) wNil))) (wgName 2) (wIfS (wNotT (wTru (wCall 2 sp_same_a3 (wCons (wOp gIx (wVar 0) (wVar 2)) (wCons (wOp gIx (wVar 1) (wVar 2)) wNil))))) (wRet (wC (.bl false))) wNext))
  (wRet (wC (.bl true)))))
def G_rows_a3 : Gam := ⟨[⟨"_law_same", 2, [], false, sp_same_a3⟩], [], [], [], []⟩
theorem pf_same_a3 : ∀ ds μ Q E, sp_same_a3 ds μ Q E → w_same_a3 (endK Q E) (startD N_same_a3 ds) μ := pf_sameN 3
theorem pf_rows_a3 : ∀ ds μ Q E, sp_rows_a3 ds μ Q E → w_rows_a3 (endK Q E) (startD N_rows_a3 ds) μ := pf_rowsN 3
theorem ln_same_a3 : ∀ ds μ Q E, sp_same_a3 ds μ Q E → ds.length = P_same_a3.length := by
  rintro ds μ Q E ⟨x, y, b, rfl, _⟩
  rfl
theorem ln_rows_a3 : ∀ ds μ Q E, sp_rows_a3 ds μ Q E → ds.length = P_rows_a3.length := by
  rintro ds μ Q E ⟨x, y, t, u, xs, ys, b, rfl, _⟩
  rfl
def sp_same_a4 : SpD := sp_sameN 4
def sp_rows_a4 : SpD := sp_rowsN 4
/-! _law_same -/
def N_same_a4 : List Str := ["_law_one", "_law_two"]
def P_same_a4 : List Str := ["_law_one", "_law_two"]
abbrev w_same_a4_p0 : WS := (wSeq (wIfS (wOrT (wTru (wIsi .str (wVar 0))) (wTru (wIsi .str (wVar 1)))) (wRet (wAnd (wIsi .str (wVar 0)) (wAnd (wIsi .str (wVar 1)) (wOp gEq (wVar 0) (wVar 1))))) wNext)
  (wSeq (wIfS (wOrT (wTru (wIsi .dict (wVar 0))) (wTru (wIsi .dict (wVar 1)))) (wRet (wAnd (wIsi .dict (wVar 0)) (wAnd (wIsi .dict (wVar 1)) (wCall 2 sp_no (wCons (wVar 0) (wCons (wVar 1) wNil)))))) wNext)
  (wSeq (wIfS (wOrT (wAndT (wTru (wIsi .list (wVar 0))) (wTru (wIsi .list (wVar 1)))) (wAndT (wTru (wIsi .tuple (wVar 0))) (wTru (wIsi .tuple (wVar 1))))) (wRet (wCall 2 sp_rows_a3 (wCons (wVar 0) (wCons (wVar 1) wNil)))) wNext)
  (wRet (wC (.bl false))))))
def w_same_a4  : WS := (wSeq (wIfS (wOrT (wTB (wOp gIs (wVar 0) (wC .non))) (wTB (wOp gIs (wVar 1) (wC .non)))) (wRet (wAnd (wOp gIs (wVar 0) (wC .non)) (wOp gIs (wVar 1) (wC .non)))) wNext)
  (wSeq (wIfS (wOrT (wTru (wIsi .bool (wVar 0))) (wTru (wIsi .bool (wVar 1)))) (wRet (wAnd (wIsi .bool (wVar 0)) (wAnd (wIsi .bool (wVar 1)) (wOp gEq (wVar 0) (wVar 1))))) wNext)
  (wSeq (wIfS (wOrT (wTru (wIsi .int (wVar 0))) (wTru (wIsi .int (wVar 1)))) (wRet (wAnd (wIsi .int (wVar 0)) (wAnd (wIsi .int (wVar 1)) (wOp gEq (wVar 0) (wVar 1))))) wNext)
  w_same_a4_p0)))
def G_same_a4 : Gam := ⟨[⟨"_law_same_rows", 2, [], false, sp_rows_a3⟩, ⟨"_law_same_dicts", 2, [], false, sp_no⟩], [], [], [], []⟩
/-! _law_same_rows -/
def N_rows_a4 : List Str := ["_law_one", "_law_two", "_law_k"]
def P_rows_a4 : List Str := ["_law_one", "_law_two"]
def w_rows_a4  : WS := (wSeq (wIfS (wTB (wOp gNe (wCB gLen (wCons (wVar 0) wNil)) (wCB gLen (wCons (wVar 1) wNil)))) (wRet (wC (.bl false))) wNext)
  (wSeq (wFor (wRng1 (wCB gLen (wCons (wVar 0) wNil))) (wgName 2) (wIfS (wNotT (wTru (wCall 2 sp_same_a4 (wCons (wOp gIx (wVar 0) (wVar 2)) (wCons (wOp gIx (wVar 1) (wVar 2)) wNil))))) (wRet (wC (.bl false))) wNext))
  (wRet (wC (.bl true)))))
def G_rows_a4 : Gam := ⟨[⟨"_law_same", 2, [], false, sp_same_a4⟩], [], [], [], []⟩
theorem pf_same_a4 : ∀ ds μ Q E, sp_same_a4 ds μ Q E → w_same_a4 (endK Q E) (startD N_same_a4 ds) μ := pf_sameN 4
theorem pf_rows_a4 : ∀ ds μ Q E, sp_rows_a4 ds μ Q E → w_rows_a4 (endK Q E) (startD N_rows_a4 ds) μ := pf_rowsN 4
theorem ln_same_a4 : ∀ ds μ Q E, sp_same_a4 ds μ Q E → ds.length = P_same_a4.length := by
  rintro ds μ Q E ⟨x, y, b, rfl, _⟩
  rfl
theorem ln_rows_a4 : ∀ ds μ Q E, sp_rows_a4 ds μ Q E → ds.length = P_rows_a4.length := by
  rintro ds μ Q E ⟨x, y, t, u, xs, ys, b, rfl, _⟩
  rfl
end T2


set_option maxRecDepth 100000
set_option maxHeartbeats 4000000
namespace T2
open PySem PySem.Spec PyProof.Rows L2
/-! ### what the head tells of exceptions' classes -/
def oexB (K : PySem.W.Frag) (C : Addr) : Bool := match K.lookup C with
  | some ⟨.type t, _, .cls cd, sl⟩ => (match cd.mro, sl.toList with
    | .ref C' :: bm, [_, _, _, _, some (.builtin n), _] => decide (t = "type") && (decide (C' = C) && (decide (n = "ValueError.__new__") && (!cd.hasDel && (cd.hasDict && PySem.HandSPX.refsVE bm))))
    | _, _ => false)
  | _ => false
theorem oexB_ok {K : PySem.W.Frag} {C : Addr} (h : oexB K C = true) : ∃ nm q N bs bm sn sub ab col dd k0 k1 k2 k3 k5, K.lookup C = some (excClassObj nm q C N bs bm true sn sub ab col dd k0 k1 k2 k3 k5 "ValueError.__new__") ∧ PySem.HandSPX.refsVE bm = true := by
  unfold oexB at h
  split at h
  · rename_i t dd cd sl ho
    split at h
    · rename_i C' bm k0 k1 k2 k3 n k5 hm hs
      obtain ⟨nm, bs, mro, ns, qn, hd, sn, sub, ab, col, del⟩ := cd
      simp only [Bool.and_eq_true, decide_eq_true_eq, Bool.not_eq_true'] at h
      obtain ⟨h1, h2, h3, h4, h5, h6⟩ := h
      dsimp only at hm h4 h5
      subst h1 h2 h3 h4 h5 hm
      have hsl : sl = #[k0, k1, k2, k3, some (.builtin "ValueError.__new__"), k5] := by
        obtain ⟨l⟩ := sl
        simp only at hs
        rw [hs]
      subst hsl
      exact ⟨nm, qn, ns, bs, bm, sn, sub, ab, col, dd, k0, k1, k2, k3, k5, ho, h6⟩
    · cases h
  · cases h
def excB (K : PySem.W.Frag) (D : Addr) : Bool := decide (PySem.W.findIn K (.ref D) "__class__" = some (some (.builtin "object.__class__"))) && (decide (PySem.W.specialIn K (.builtin "object.__class__") "__get__" = some (some (.builtin "getset_descriptor.__get__"))) &&
  (decide (PySem.W.takesIn K (.builtin "object.__class__") = some true) && decide (PySem.W.mroIn K D (.type "object") = some true)))
theorem excB_ok {K : PySem.W.Frag} {D : Addr} (x : XfC K D) (h : excB K D = true) : ExcC K D := by
  unfold excB at h
  simp only [Bool.and_eq_true, decide_eq_true_eq] at h
  exact ⟨x.ga, x.gg, x.exC, x.hdC, h.1, h.2.1, h.2.2.1, h.2.2.2⟩
/-- a class x of exceptions; fs: what its objects may keep -/
def xclB (K : PySem.W.Frag) (x : Str) (fs : List Str) : Bool := oexB K (He.ga K x) && (decide (PySem.W.findIn K (.ref (He.ga K x)) "__setattr__" = some (some (.builtin "object.__setattr__"))) && (decide (PySem.W.typeIn K (.ref (He.ga K x)) = some (.type "type")) && (PySem.W.keepIn K (.ref (He.ga K x)) &&
  (xfB K (He.ga K x) && (excB K (He.ga K x) && fs.all fun f => decide (PySem.W.findIn K (.ref (He.ga K x)) f = some none))))))
theorem xclB_ok {K : PySem.W.Frag} {mg : Str → Option Value} {x : Str} {fs : List Str} (hg : mg x = some (.ref (He.ga K x))) (h : xclB K x fs = true) : XCls K mg x (He.ga K x) fs := by
  unfold xclB at h
  simp only [Bool.and_eq_true, decide_eq_true_eq] at h
  obtain ⟨h1, h2, h3, h4, h5, h6, h7⟩ := h
  have X := xfB_ok h5
  exact ⟨hg, ⟨oexB_ok h1, h2, X.exC, h3, h4⟩, X, excB_ok X h6, fun f hf => of_decide_eq_true (List.all_eq_true.mp h7 f hf)⟩
def xct (K : PySem.W.Frag) (cs : List Str) : CT := ⟨fun _ => none, fun c => if memB c cs = true then some (He.ga K c) else none⟩
theorem memB_ok {x : Str} : ∀ {l : List Str}, memB x l = true → x ∈ l
  | [], h => by cases h
  | y :: r, h => by
    unfold memB at h
    split at h
    · rename_i e; rw [e]; exact List.mem_cons_self
    · exact List.mem_cons_of_mem _ (memB_ok h)
theorem xct_ok {K : PySem.W.Frag} {cs : List Str} {c : Str} {ca : Addr} (h : (xct K cs).xcls c = some ca) : c ∈ cs ∧ ca = He.ga K c := by
  have h : (if memB c cs = true then some (He.ga K c) else none) = some ca := h
  split at h
  · rename_i e; cases h; exact ⟨memB_ok e, rfl⟩
  · cases h
/-- x names a class; is: which of the classes are it or below it -/
def subB (K : PySem.W.Frag) (cs : List Str) (x : Str) (is : Str → Bool) : Bool := cs.all fun c => decide (PySem.W.kitOne K (.ref (He.ga K c)) (.ref (He.ga K x)) = some (is c)) && decide (PySem.W.exmOne K (.ref (He.ga K c)) (.ref (He.ga K x)) = some (is c))
theorem subB_ok {K : PySem.W.Frag} {mg : Str → Option Value} {cs : List Str} {x : Str} {is : Str → Bool} (hg : mg x = some (.ref (He.ga K x))) (h : subB K cs x is = true) : SubOk K mg (xct K cs) x is :=
  ⟨.ref (He.ga K x), .ref (He.ga K x), .inl hg, rfl, fun u r => r, fun c ca hc => by
    obtain ⟨h1, rfl⟩ := xct_ok hc
    have := List.all_eq_true.mp h c h1
    simp only [Bool.and_eq_true, decide_eq_true_eq] at this
    exact this⟩
/-- .. a built-in class -/
def subV (K : PySem.W.Frag) (cs : List Str) (n : String) (is : Str → Bool) : Bool := cs.all fun c => decide (PySem.W.kitOne K (.ref (He.ga K c)) (.type n) = some (is c)) && decide (PySem.W.exmOne K (.ref (He.ga K c)) (.type n) = some (is c))
theorem subV_ok {K : PySem.W.Frag} {mg : Str → Option Value} {cs : List Str} {x : Str} {n : String} {is : Str → Bool} (hg : mg x = none) (hb : bootBuiltins x = some (.type n)) (h : subV K cs n is = true) : SubOk K mg (xct K cs) x is :=
  ⟨.ty n, .type n, .inr ⟨hg, hb⟩, rfl, fun u r => r, fun c ca hc => by
    obtain ⟨h1, rfl⟩ := xct_ok hc
    have := List.all_eq_true.mp h c h1
    simp only [Bool.and_eq_true, decide_eq_true_eq] at this
    exact this⟩
/-! ### a law's tables, put together once -/
structure Bs (P : Program) (w : World) (K : PySem.W.Frag) (mg : Str → Option Value) (base : Heap) (C : CT) (consts : List (Str × D)) (raises : List (Str × List Str)) (subs : List (Str × (Str → Bool))) (flds : List Str) : Prop where
  con : ∀ q ∈ consts, ∃ u v, mg q.1 = some u ∧ RelV v u ∧ ∀ F, Rep K C F q.2 v
  free : ∀ x ∈ biNames, mg x = none
  rs : ∀ q ∈ raises, XMk P w K mg base C 1 q.1 q.2
  sub : ∀ q ∈ subs, SubOk K mg C q.1 q.2
  xc : ∀ c ca, C.xcls c = some ca → XfC K ca ∧ ExcC K ca ∧ ∀ f ∈ flds, PySem.W.findIn K (.ref ca) f = some none
def AllF (P : Program) (w : World) (K : PySem.W.Frag) (mg : Str → Option Value) (base : Heap) (C : CT) (k : Nat) : List FunE → Prop
  | [] => True
  | e :: r => FnAt P w K mg base C k e.x e.n e.ks e.sp ∧ AllF P w K mg base C k r
theorem AllF.nil {P : Program} {w : World} {K : PySem.W.Frag} {mg : Str → Option Value} {base : Heap} {C : CT} {k : Nat} : AllF P w K mg base C k [] := trivial
theorem AllF.cons {P : Program} {w : World} {K : PySem.W.Frag} {mg : Str → Option Value} {base : Heap} {C : CT} {k : Nat} {e : FunE} {r : List FunE} (h : FnAt P w K mg base C k e.x e.n e.ks e.sp) (t : AllF P w K mg base C k r) : AllF P w K mg base C k (e :: r) := ⟨h, t⟩
theorem AllF.get {P : Program} {w : World} {K : PySem.W.Frag} {mg : Str → Option Value} {base : Heap} {C : CT} {k : Nat} : ∀ {l : List FunE}, AllF P w K mg base C k l → ∀ e ∈ l, FnAt P w K mg base C k e.x e.n e.ks e.sp
  | [], _, e, he => by cases he
  | a :: r, h, e, he => by
    rcases List.mem_cons.mp he with z | z
    · rw [z]; exact h.1
    · exact AllF.get h.2 e z
theorem Bs.gam {P : Program} {w : World} {K : PySem.W.Frag} {mg : Str → Option Value} {base : Heap} {C : CT} {consts : List (Str × D)} {raises : List (Str × List Str)} {subs : List (Str × (Str → Bool))} {flds : List Str} {k : Nat} {fs : List FunE}
    (B : Bs P w K mg base C consts raises subs flds) (hk : 2 ≤ k) (h : AllF P w K mg base C k fs) : GamOk P w K mg base C k ⟨fs, consts, raises, subs, flds⟩ :=
  ⟨h.get, B.con, B.free, fun q hq => ⟨1, hk, B.rs q hq⟩, B.sub, B.xc⟩
theorem con_str {K : PySem.W.Frag} {mg : Str → Option Value} {C : CT} {x z : Str} (h : ∃ t, mg x = some (.str z t)) : ∃ u v, mg x = some u ∧ RelV v u ∧ ∀ F, Rep K C F (.str z) v := by
  obtain ⟨t, h⟩ := h
  exact ⟨_, .str z, h, ⟨t, rfl⟩, fun F => .ofStr⟩
theorem con_int {K : PySem.W.Frag} {mg : Str → Option Value} {C : CT} {x : Str} {i : Int} (h : ∃ t, mg x = some (.int i t)) : ∃ u v, mg x = some u ∧ RelV v u ∧ ∀ F, Rep K C F (.int i) v := by
  obtain ⟨t, h⟩ := h
  exact ⟨_, .int i, h, ⟨t, rfl⟩, fun F => .ofInt⟩
/-! ### the law's own def, at the head -/
theorem law_sp {K : PySem.W.Frag} {C : CT} {sp : SpD} (h : ∀ (ns : List Int), (∀ z ∈ ns, Bd BB z) → ns.length < sizeLine → ∀ (μ : Mu) (Q : PQ) (E : PX), (∀ μ', Q (.bl true) μ') → sp [.scr (ns.map D.int)] μ Q E) {n : Nat} (hn : n < sizeLine)
    (H : Hp) (a : Addr) (ns : List Int) (hl : ns.length ≤ n) (hb : ∀ z ∈ ns, Builtin.Int.intBits z ≤ 1048576) (hS : SqL K H a (ns.map V.int)) : liftSp K C sp [.ref a] H (fun v _ => v = .bl true) fun _ _ _ => False := by
  have hr : ∀ ns : List Int, RepL K C H (ns.map D.int) (ns.map V.int) := fun ns => by
    induction ns with
    | nil => exact .nil
    | cons i r ih => exact .cons .ofInt ih
  have hw : Wd K C H H (fun _ => none) H ∨ True := .inr trivial
  refine ⟨fun _ => none, H, fun _ => none, [.scr (ns.map D.int)], fun d _ => d = .bl true, fun _ _ _ => False, .cons ?_ .nil, ⟨fun _ _ e => e, fun _ _ e => (by cases e), fun _ _ e => (by cases e), fun _ _ e => (by cases e), fun _ _ e => (by cases e)⟩,
    h ns (fun z hz => Bd.ofBits (hb z hz)) (by omega) _ _ _ fun _ => rfl, fun d μ' e F' H' v s w r => ?_, fun _ _ _ z => z.elim⟩
  · unfold Rep
    exact ⟨a, _, rfl, hS, hr ns⟩
  · subst e
    exact r.bl
end T2

set_option maxRecDepth 100000
set_option maxHeartbeats 4000000
namespace K74
open PySem PySem.Spec PyProof.Rows L2 T2
/-! ### scalars, numbers within bounds, what is due -/
def Sc (d : D) : Prop := (∃ i, d = .int i) ∨ (∃ b, d = .bl b) ∨ d = .non
def num (lo hi : Int) : D → Bool
  | .int i => decide (lo ≤ i ∧ i ≤ hi)
  | _ => false
theorem num_ok {lo hi : Int} {d : D} (h : num lo hi d = true) : ∃ i, d = .int i ∧ lo ≤ i ∧ i ≤ hi := by
  cases d with
  | int i => exact ⟨i, rfl, of_decide_eq_true h⟩
  | _ => cases h
def BadF (w : Str) (d : D) : FE := [("value", d), ("what", .str w)]
def outc (r : Option (Str × D)) (ok : Prop) (E : PX) (μ : Mu) : Prop := (r = none → ok) ∧ ∀ w d, r = some (w, d) → E "BadNumber" (BadF w d) μ
def due3 (hi : Int) (x y z : D) : Option (Str × D) := if num 0 hi x = false then some ("own", x) else if num 0 hi y = false then some ("other", y) else if num 0 hi z = false then some ("shared", z) else none
def dueS : D → D → D → Option (Str × D)
  | .int x, .int y, .int z => if x + z = 0 then some ("own", .int x) else if y + z = 0 then some ("other", .int y) else none
  | _, _, _ => none
def due (hi : Int) (x y z : D) : Option (Str × D) := match due3 hi x y z with
  | some r => some r
  | none => dueS x y z
def isX_TworoomsError : Str → Bool := fun c => memB c ["TworoomsError", "BadNumber", "NoEntry"]
def isX_BadNumber : Str → Bool := fun c => memB c ["BadNumber"]
def isX_NoEntry : Str → Bool := fun c => memB c ["NoEntry"]
/-! is_number -/
def N_m_is_number : List Str := ["value"]
def P_m_is_number : List Str := ["value"]
def w_m_is_number  : WS := (wRet (wAnd (wIsi .int (wVar 0)) (wNot (wIsi .bool (wVar 0)))))
def G_m_is_number : Gam := ⟨[], [], [], [], []⟩
def sp_m_is_number : SpD := fun ds μ Q _ => ∃ d, ds = [d] ∧ Sc d ∧ (∀ i, d = .int i → Q (.bl true) μ) ∧ ((∀ i, d ≠ .int i) → Q (.bl false) μ)
theorem pf_m_is_number : ∀ ds μ Q E, sp_m_is_number ds μ Q E → w_m_is_number (endK Q E) (startD N_m_is_number ds) μ := by
  rintro ds μ Q E ⟨d, rfl, h, q1, q2⟩
  unfold w_m_is_number
  rcases h with ⟨i, rfl⟩ | ⟨b, rfl⟩ | rfl
  all_goals rotate_left 901
  · exact q1 i rfl
  · exact q2 fun i e => by cases e
  · exact q2 fun i e => by cases e
/-! check_number -/
def N_m_check_number : List Str := ["what", "value", "least", "most"]
def P_m_check_number : List Str := ["what", "value", "least", "most"]
def w_m_check_number  : WS := (wSeq (wIfS (wNotT (wTru (wCall 1 sp_m_is_number (wCons (wVar 1) wNil)))) (wRaise "BadNumber" ["what", "value"] (wCons (wVar 0) (wCons (wVar 1) wNil))) wNext)
  (wSeq (wIfS (wOrT (wTB (wOp gLt (wVar 1) (wVar 2))) (wTB (wOp gGt (wVar 1) (wVar 3)))) (wRaise "BadNumber" ["what", "value"] (wCons (wVar 0) (wCons (wVar 1) wNil))) wNext)
  (wRet (wVar 1))))
def G_m_check_number : Gam := ⟨[⟨"is_number", 1, [], false, sp_m_is_number⟩], [], [("BadNumber", ["what", "value"])], [], []⟩
def sp_m_check_number : SpD := fun ds μ Q E => ∃ w d lo hi, ds = [.str w, d, .int lo, .int hi] ∧ Sc d ∧ (num lo hi d = true → Q d μ) ∧ (num lo hi d = false → E "BadNumber" (BadF w d) μ)
theorem pf_m_check_number : ∀ ds μ Q E, sp_m_check_number ds μ Q E → w_m_check_number (endK Q E) (startD N_m_check_number ds) μ := by
  rintro ds μ Q E ⟨w, d, lo, hi, rfl, h, q1, q2⟩
  unfold w_m_check_number
  rotate_left 901
  refine ⟨rfl, d, rfl, h, ?_, ?_⟩
  · rintro i rfl
    rotate_left 901
    · exact ⟨rfl, q2 (decide_eq_false (by omega))⟩
    · exact ⟨rfl, q2 (decide_eq_false (by omega))⟩
    · exact q1 (decide_eq_true (by omega))
  · intro h0
    rotate_left 901
    refine ⟨rfl, q2 ?_⟩
    cases d with
    | int i => exact absurd rfl (h0 i)
    | _ => rfl
def CkN (w : Str) (d : D) (lo hi : Int) (ok : Prop) (E : PX) (μ : Mu) : Prop := (num lo hi d = true → ok) ∧ (num lo hi d = false → E "BadNumber" (BadF w d) μ)
theorem i_ck {w : Str} {d : D} {lo hi : Int} {μ : Mu} {Q : PQ} {E : PX} (h : Sc d) (q1 : num lo hi d = true → Q d μ) (q2 : num lo hi d = false → E "BadNumber" (BadF w d) μ) : [D.str w, d, .int lo, .int hi].length = 4 ∧ sp_m_check_number [.str w, d, .int lo, .int hi] μ Q E :=
  ⟨rfl, w, d, lo, hi, rfl, h, q1, q2⟩
/-! check_three -/
def N_m_check_three : List Str := ["own", "other", "shared", "most"]
def P_m_check_three : List Str := ["own", "other", "shared", "most"]
def w_m_check_three  : WS := (wSeq (wDrop (wCall 4 sp_m_check_number (wCons (wC (.str "own")) (wCons (wVar 0) (wCons (wC (.int 0)) (wCons (wVar 3) wNil))))))
  (wSeq (wDrop (wCall 4 sp_m_check_number (wCons (wC (.str "other")) (wCons (wVar 1) (wCons (wC (.int 0)) (wCons (wVar 3) wNil))))))
  (wDrop (wCall 4 sp_m_check_number (wCons (wC (.str "shared")) (wCons (wVar 2) (wCons (wC (.int 0)) (wCons (wVar 3) wNil))))))))
def G_m_check_three : Gam := ⟨[⟨"check_number", 4, [], false, sp_m_check_number⟩], [], [], [], []⟩
def sp_m_check_three : SpD := fun ds μ Q E => ∃ x y z hi, ds = [x, y, z, .int hi] ∧ Sc x ∧ Sc y ∧ Sc z ∧ outc (due3 hi x y z) (Q .non μ) E μ
theorem pf_m_check_three : ∀ ds μ Q E, sp_m_check_three ds μ Q E → w_m_check_three (endK Q E) (startD N_m_check_three ds) μ := by
  rintro ds μ Q E ⟨x, y, z, hi, rfl, hx, hy, hz, q1, q2⟩
  unfold w_m_check_three
  rotate_left 901
  refine i_ck hx (fun hx => ?_) fun hx => ?_
  · rotate_left 901
    refine i_ck hy (fun hy => ?_) fun hy => ?_
    · rotate_left 901
      refine i_ck hz (fun hz => ?_) fun hz => ?_
      · exact q1 (by unfold due3; rw [if_neg (by rw [hx]; decide), if_neg (by rw [hy]; decide), if_neg (by rw [hz]; decide)])
      · exact q2 _ _ (by unfold due3; rw [if_neg (by rw [hx]; decide), if_neg (by rw [hy]; decide), if_pos hz])
    · exact q2 _ _ (by unfold due3; rw [if_neg (by rw [hx]; decide), if_pos hy])
  · exact q2 _ _ (by unfold due3; rw [if_pos hx])
/-! check_sums -/
def N_m_check_sums : List Str := ["own", "other", "shared"]
def P_m_check_sums : List Str := ["own", "other", "shared"]
def w_m_check_sums  : WS := (wSeq (wIfS (wTB (wOp gEq (wOp gAdd (wVar 0) (wVar 2)) (wC (.int 0)))) (wRaise "BadNumber" ["what", "value"] (wCons (wC (.str "own")) (wCons (wVar 0) wNil))) wNext)
  (wIfS (wTB (wOp gEq (wOp gAdd (wVar 1) (wVar 2)) (wC (.int 0)))) (wRaise "BadNumber" ["what", "value"] (wCons (wC (.str "other")) (wCons (wVar 1) wNil))) wNext))
def G_m_check_sums : Gam := ⟨[], [], [("BadNumber", ["what", "value"])], [], []⟩
def sp_m_check_sums : SpD := fun ds μ Q E => ∃ x y z : Int, ds = [.int x, .int y, .int z] ∧ outc (dueS (.int x) (.int y) (.int z)) (Q .non μ) E μ
theorem pf_m_check_sums : ∀ ds μ Q E, sp_m_check_sums ds μ Q E → w_m_check_sums (endK Q E) (startD N_m_check_sums ds) μ := by
  rintro ds μ Q E ⟨x, y, z, rfl, q1, q2⟩
  unfold w_m_check_sums
  rotate_left 901
  · exact ⟨rfl, q2 _ _ (if_pos h)⟩
  · exact ⟨rfl, q2 _ _ ((if_neg (by assumption)).trans (if_pos h))⟩
  · exact q1 ((if_neg (by assumption)).trans (if_neg h))
theorem due3_none {hi : Int} {x y z : D} (h : due3 hi x y z = none) : num 0 hi x = true ∧ num 0 hi y = true ∧ num 0 hi z = true := by
  unfold due3 at h
  split at h
  · cases h
  · split at h
    · cases h
    · split at h
      · cases h
      · rename_i h1 h2 h3
        exact ⟨by simpa using h1, by simpa using h2, by simpa using h3⟩
/-! check_race -/
def N_m_check_race : List Str := ["own", "other", "shared", "most"]
def P_m_check_race : List Str := ["own", "other", "shared", "most"]
def w_m_check_race  : WS := (wSeq (wDrop (wCall 4 sp_m_check_three (wCons (wVar 0) (wCons (wVar 1) (wCons (wVar 2) (wCons (wVar 3) wNil))))))
  (wDrop (wCall 3 sp_m_check_sums (wCons (wVar 0) (wCons (wVar 1) (wCons (wVar 2) wNil))))))
def G_m_check_race : Gam := ⟨[⟨"check_sums", 3, [], false, sp_m_check_sums⟩, ⟨"check_three", 4, [], false, sp_m_check_three⟩], [], [], [], []⟩
def sp_m_check_race : SpD := fun ds μ Q E => ∃ x y z hi, ds = [x, y, z, .int hi] ∧ Sc x ∧ Sc y ∧ Sc z ∧ outc (due hi x y z) (Q .non μ) E μ
theorem pf_m_check_race : ∀ ds μ Q E, sp_m_check_race ds μ Q E → w_m_check_race (endK Q E) (startD N_m_check_race ds) μ := by
  rintro ds μ Q E ⟨x, y, z, hi, rfl, hx, hy, hz, q1, q2⟩
  unfold w_m_check_race
  rotate_left 901
  refine ⟨rfl, x, y, z, hi, rfl, hx, hy, hz, fun h3 => ?_, fun w d h3 => ?_⟩
  · rotate_left 901
    obtain ⟨n1, n2, n3⟩ := due3_none h3
    obtain ⟨i, rfl, _⟩ := num_ok n1
    obtain ⟨j, rfl, _⟩ := num_ok n2
    obtain ⟨k, rfl, _⟩ := num_ok n3
    have e : due hi (.int i) (.int j) (.int k) = dueS (.int i) (.int j) (.int k) := by unfold due; rw [h3]
    rw [e] at q1 q2
    exact ⟨rfl, i, j, k, rfl, q1, q2⟩
  · exact q2 _ _ (by unfold due; rw [h3])
/-- the value of a race -/
def vS (x y z : Int) (p : Bool) : Str := if (if 0 > z - 1 then 0 else z - 1) ≤ x - y then "wins" else if (if 1 > z then 1 else z) ≤ y - x ∧ p = false then "loses" else "peace"
/-! value_by_rule -/
def N_m_value_by_rule : List Str := ["own", "other", "shared", "after_pass"]
def P_m_value_by_rule : List Str := ["own", "other", "shared", "after_pass"]
def w_m_value_by_rule  : WS := (wSeq (wIfS (wTB (wOp gGe (wOp gSub (wVar 0) (wVar 1)) (wCB gMax (wCons (wOp gSub (wVar 2) (wC (.int 1))) (wCons (wC (.int 0)) wNil))))) (wRet (wC (.str "wins"))) wNext)
  (wSeq (wIfS (wAndT (wTB (wOp gGe (wOp gSub (wVar 1) (wVar 0)) (wCB gMax (wCons (wVar 2) (wCons (wC (.int 1)) wNil))))) (wNotT (wTru (wVar 3)))) (wRet (wC (.str "loses"))) wNext)
  (wRet (wC (.str "peace")))))
def G_m_value_by_rule : Gam := ⟨[], [("PEACE", (.str "peace")), ("LOSES", (.str "loses")), ("WINS", (.str "wins"))], [], [], []⟩
def sp_m_value_by_rule : SpD := fun ds μ Q E => ∃ (x y z : Int) (p : Bool), ds = [.int x, .int y, .int z, .bl p] ∧ Q (.str (vS x y z p)) μ
theorem pf_m_value_by_rule : ∀ ds μ Q E, sp_m_value_by_rule ds μ Q E → w_m_value_by_rule (endK Q E) (startD N_m_value_by_rule ds) μ := by
  rintro ds μ Q E ⟨x, y, z, p, rfl, q⟩
  unfold w_m_value_by_rule
  rotate_left 901
  · have e : vS x y z p = "wins" := if_pos h
    rw [e] at q
    exact q
  · cases p
    all_goals rotate_left 901
    · have e : vS x y z false = "loses" := (if_neg (by assumption)).trans (if_pos ⟨h, rfl⟩)
      rw [e] at q
      exact q
    · have e : vS x y z true = "peace" := (if_neg (by assumption)).trans (if_neg fun z => by cases z.2)
      rw [e] at q
      exact q
  · have e : vS x y z p = "peace" := (if_neg (by assumption)).trans (if_neg fun z => h z.1)
    rw [e] at q
    exact q
/-! race_value -/
def N_m_race_value : List Str := ["own", "other", "shared", "after_pass"]
def P_m_race_value : List Str := ["own", "other", "shared", "after_pass"]
def w_m_race_value  : WS := (wSeq (wDrop (wCall 4 sp_m_check_race (wCons (wVar 0) (wCons (wVar 1) (wCons (wVar 2) (wCons (wC (.int 1000000)) wNil))))))
  (wRet (wCall 4 sp_m_value_by_rule (wCons (wVar 0) (wCons (wVar 1) (wCons (wVar 2) (wCons (wVar 3) wNil)))))))
def G_m_race_value : Gam := ⟨[⟨"value_by_rule", 4, [], false, sp_m_value_by_rule⟩, ⟨"check_race", 4, [], false, sp_m_check_race⟩], [("MOST_RACE", (.int 1000000))], [], [], []⟩
def sp_m_race_value0 (x y z : D) (p : Bool) (μ : Mu) (Q : PQ) (E : PX) : Prop := Sc x ∧ Sc y ∧ Sc z ∧ outc (due 1000000 x y z) (∀ i j k, x = .int i → y = .int j → z = .int k → Q (.str (vS i j k p)) μ) E μ
def sp_m_race_value : SpD := fun ds μ Q E => ∃ x y z p, ds = [x, y, z, .bl p] ∧ sp_m_race_value0 x y z p μ Q E
theorem due_none {hi : Int} {x y z : D} (h : due hi x y z = none) : ∃ i j k, x = .int i ∧ y = .int j ∧ z = .int k ∧ 0 ≤ i ∧ i ≤ hi ∧ 0 ≤ j ∧ j ≤ hi ∧ 0 ≤ k ∧ k ≤ hi ∧ 0 < i + k ∧ 0 < j + k := by
  unfold due at h
  split at h
  · cases h
  · rename_i h3
    obtain ⟨n1, n2, n3⟩ := due3_none h3
    obtain ⟨i, rfl, a1, a2⟩ := num_ok n1
    obtain ⟨j, rfl, b1, b2⟩ := num_ok n2
    obtain ⟨k, rfl, c1, c2⟩ := num_ok n3
    have h : (if i + k = 0 then some (("own" : Str), D.int i) else if j + k = 0 then some ("other", D.int j) else none) = none := h
    split at h
    · cases h
    · split at h
      · cases h
      · exact ⟨i, j, k, rfl, rfl, rfl, a1, a2, b1, b2, c1, c2, by omega, by omega⟩
theorem pf_m_race_value : ∀ ds μ Q E, sp_m_race_value ds μ Q E → w_m_race_value (endK Q E) (startD N_m_race_value ds) μ := by
  rintro ds μ Q E ⟨x, y, z, p, rfl, hx, hy, hz, q1, q2⟩
  unfold w_m_race_value
  rotate_left 901
  refine ⟨rfl, x, y, z, _, rfl, hx, hy, hz, fun h => ?_, q2⟩
  obtain ⟨i, j, k, rfl, rfl, rfl, _⟩ := due_none h
  rotate_left 901
  refine ⟨rfl, i, j, k, p, rfl, ?_⟩
  rotate_left 901
  exact q1 h i j k rfl rfl rfl
end K74


set_option maxRecDepth 100000
set_option maxHeartbeats 4000000
namespace K74
open PySem PySem.Spec PyProof.Rows L2 T2
/-! ### the game, plainly -/
inductive V3 | W | P | L
deriving DecidableEq
def V3.s : V3 → Str
  | .W => "wins" | .P => "peace" | .L => "loses"
def V3.flip : V3 → V3
  | .W => .L | .P => .P | .L => .W
theorem V3.inj : ∀ {a b : V3}, a.s = b.s → a = b := by
  intro a b h
  cases a <;> cases b <;> first | rfl | exact absurd h (by decide +kernel)
def mA (z : Int) : Int := if 0 > z - 1 then 0 else z - 1
def mB (z : Int) : Int := if 1 > z then 1 else z
theorem mA_spec (z : Int) : 0 ≤ mA z ∧ z - 1 ≤ mA z ∧ (mA z = 0 ∨ mA z = z - 1) := by unfold mA; split <;> omega
theorem mB_spec (z : Int) : 1 ≤ mB z ∧ z ≤ mB z ∧ (mB z = 1 ∨ mB z = z) := by unfold mB; split <;> omega
def vV (x y z : Int) (p : Bool) : V3 := if mA z ≤ x - y then .W else if mB z ≤ y - x ∧ p = false then .L else .P
theorem vS_eq (x y z : Int) (p : Bool) : vS x y z p = (vV x y z p).s := by
  unfold vV
  show (if mA z ≤ x - y then ("wins" : Str) else if mB z ≤ y - x ∧ p = false then "loses" else "peace") = _
  split
  · rfl
  · split <;> rfl
inductive Wo | fill | share | own | pass
deriving DecidableEq
def Wo.s : Wo → Str
  | .fill => "fill" | .share => "share" | .own => "own" | .pass => "pass"
/-- what is left of own, other, shared before a deed -/
def F0 (x y z q : Int) : Wo → Int
  | .own => x | .fill => y | .share => z | .pass => q
def dec (f : Wo → Int) (w : Wo) : Wo → Int := fun v => if v = w then f v - 1 else f v
def opB (x y z : Int) (w : Wo) : Bool := decide (0 ≤ dec (F0 x y z 1) w w ∧ (0 < dec (F0 x y z 1) w .own + dec (F0 x y z 1) w .share ∨ w = .fill ∨ (w = .share ∧ dec (F0 x y z 1) w .fill + dec (F0 x y z 1) w .share = 0)))
def four : List Wo := [.fill, .share, .own, .pass]
def opn (x y z : Int) : List Wo := four.filter (opB x y z)
def rbV (x y z : Int) (p : Bool) (w : Wo) : V3 := if dec (F0 x y z 0) w .fill + dec (F0 x y z 0) w .share = 0 then .W else if w = .pass ∧ p = true then .P else (vV (dec (F0 x y z 0) w .fill) (dec (F0 x y z 0) w .own) (dec (F0 x y z 0) w .share) (decide (w = .pass))).flip
def Valid (x y z : Int) : Prop := 0 ≤ x ∧ x ≤ 1000000 ∧ 0 ≤ y ∧ y ≤ 1000000 ∧ 0 ≤ z ∧ z ≤ 1000000 ∧ 0 < x + z ∧ 0 < y + z
theorem valid_later {x y z : Int} {w : Wo} (v : Valid x y z) (h : opB x y z w = true) (hn : dec (F0 x y z 0) w .fill + dec (F0 x y z 0) w .share ≠ 0) : Valid (dec (F0 x y z 0) w .fill) (dec (F0 x y z 0) w .own) (dec (F0 x y z 0) w .share) := by
  have h := of_decide_eq_true h
  unfold Valid at v ⊢
  cases w <;> simp [dec, F0] at h hn ⊢ <;> omega
def bestV (vs : List V3) : V3 := if .W ∈ vs then .W else if .P ∈ vs then .P else .L
theorem best_A {x y z : Int} {p : Bool} (v : Valid x y z) (h : vV x y z p = .W) : ∃ w, opB x y z w = true ∧ rbV x y z p w = .W := by
  have f1 := mA_spec z
  have f2 := mB_spec z
  have f3 := mA_spec (z - 1)
  have f4 := mB_spec (z - 1)
  unfold Valid at v
  have h' : mA z ≤ x - y := by
    unfold vV at h
    split at h
    · assumption
    · split at h <;> cases h
  by_cases hy : 1 ≤ y
  · refine ⟨.fill, decide_eq_true (by simp [dec, F0]; omega), ?_⟩
    unfold rbV
    simp [dec, F0]
    intro hn
    have e : vV (y - 1) x z false = .L := by
      unfold vV
      rw [if_neg (by omega), if_pos ⟨by omega, rfl⟩]
    rw [e]
    rfl
  · refine ⟨.share, decide_eq_true (by simp [dec, F0]; omega), ?_⟩
    unfold rbV
    simp [dec, F0]
    intro hn
    have e : vV y x (z - 1) false = .L := by
      unfold vV
      rw [if_neg (by omega), if_pos ⟨by omega, rfl⟩]
    rw [e]
    rfl
theorem flipW {a : V3} (h : a.flip = .W) : a = .L := by cases a <;> first | rfl | cases h
theorem flipP {a : V3} (h : a.flip = .P) : a = .P := by cases a <;> first | rfl | cases h
theorem vL {x y z : Int} {p : Bool} (h : vV x y z p = .L) : ¬ mA z ≤ x - y ∧ mB z ≤ y - x ∧ p = false := by
  unfold vV at h
  split at h
  · cases h
  · split at h
    · exact ⟨by assumption, by assumption⟩
    · cases h
theorem vP {x y z : Int} {p : Bool} (h : vV x y z p = .P) : ¬ mA z ≤ x - y ∧ ¬ (mB z ≤ y - x ∧ p = false) := by
  unfold vV at h
  split at h
  · cases h
  · split at h
    · cases h
    · exact ⟨by assumption, by assumption⟩
theorem best_B {x y z : Int} {p : Bool} {w : Wo} (v : Valid x y z) (h : opB x y z w = true) (hr : rbV x y z p w = .W) : vV x y z p = .W := by
  have f1 := mA_spec z
  have f2 := mB_spec z
  have f3 := mA_spec (z - 1)
  have f4 := mB_spec (z - 1)
  have h := of_decide_eq_true h
  unfold Valid at v
  unfold rbV at hr
  have key : mA z ≤ x - y := by
    split at hr
    · rename_i h0
      cases w <;> simp [dec, F0] at h h0 <;> omega
    · split at hr
      · cases hr
      · obtain ⟨h1, h2, h3⟩ := vL (flipW hr)
        cases w
        · simp [dec, F0] at h h1 h2; omega
        · simp [dec, F0] at h h1 h2; omega
        · simp [dec, F0] at h h1 h2; omega
        · simp at h3
  unfold vV
  rw [if_pos key]
theorem best_C {x y z : Int} {p : Bool} (v : Valid x y z) (h : vV x y z p = .P) : ∃ w, opB x y z w = true ∧ rbV x y z p w = .P := by
  have f1 := mA_spec z
  have f2 := mB_spec z
  have f3 := mA_spec (z - 1)
  have f4 := mB_spec (z - 1)
  unfold Valid at v
  obtain ⟨h1, h2⟩ := vP h
  have pas : opB x y z .pass = true := decide_eq_true (by simp [dec, F0]; omega)
  have pn : rbV x y z p .pass = if p = true then .P else (vV y x z true).flip := by
    show (if y + z = 0 then V3.W else if Wo.pass = Wo.pass ∧ p = true then V3.P else (vV y x z true).flip) = _
    rw [if_neg (by omega)]
    cases p <;> simp
  cases p with
  | true => exact ⟨.pass, pas, pn⟩
  | false =>
    by_cases hc : mA z ≤ y - x
    · have hh : ¬ mB z ≤ y - x := fun q => h2 ⟨q, rfl⟩
      refine ⟨.fill, decide_eq_true (by simp [dec, F0]; omega), ?_⟩
      unfold rbV
      simp [dec, F0]
      rw [if_neg (by omega)]
      have e : vV (y - 1) x z false = .P := by
        unfold vV
        rw [if_neg (by omega), if_neg (by intro q; have := q.1; omega)]
      rw [e]
      rfl
    · refine ⟨.pass, pas, ?_⟩
      rw [pn]
      have e : vV y x z true = .P := by
        unfold vV
        rw [if_neg hc, if_neg (by intro q; cases q.2)]
      rw [e]
      rfl
theorem best_D {x y z : Int} {p : Bool} {w : Wo} (v : Valid x y z) (h : opB x y z w = true) (hr : rbV x y z p w = .P) : vV x y z p ≠ .L := by
  have f1 := mA_spec z
  have f2 := mB_spec z
  have f3 := mA_spec (z - 1)
  have f4 := mB_spec (z - 1)
  intro hL
  have h := of_decide_eq_true h
  unfold Valid at v
  obtain ⟨g1, g2, rfl⟩ := vL hL
  unfold rbV at hr
  split at hr
  · cases hr
  · split at hr
    · rename_i q; cases q.2
    · obtain ⟨h1, h2⟩ := vP (flipP hr)
      cases w
      · simp [dec, F0] at h h1 h2; omega
      · simp [dec, F0] at h h1 h2; omega
      · simp [dec, F0] at h h1 h2; omega
      · simp [dec, F0] at h h1 h2; omega
theorem mem_four (w : Wo) : w ∈ four := by cases w <;> decide
theorem best_ok {x y z : Int} (p : Bool) (v : Valid x y z) : bestV ((opn x y z).map (rbV x y z p)) = vV x y z p ∧ vV x y z p ∈ (opn x y z).map (rbV x y z p) := by
  have mem : ∀ a, a ∈ (opn x y z).map (rbV x y z p) ↔ ∃ w, opB x y z w = true ∧ rbV x y z p w = a := fun a => by
    rw [List.mem_map]
    exact ⟨fun ⟨w, h, e⟩ => ⟨w, (List.mem_filter.mp h).2, e⟩, fun ⟨w, h, e⟩ => ⟨w, List.mem_filter.mpr ⟨mem_four w, h⟩, e⟩⟩
  unfold bestV
  by_cases hW : V3.W ∈ (opn x y z).map (rbV x y z p)
  · rw [if_pos hW]
    obtain ⟨w, h1, h2⟩ := (mem _).mp hW
    have e := best_B v h1 h2
    rw [e]
    exact ⟨rfl, hW⟩
  · rw [if_neg hW]
    have nW : vV x y z p ≠ .W := fun e => hW ((mem _).mpr (best_A v e))
    by_cases hP : V3.P ∈ (opn x y z).map (rbV x y z p)
    · rw [if_pos hP]
      obtain ⟨w, h1, h2⟩ := (mem _).mp hP
      have nL := best_D v h1 h2
      have e : vV x y z p = .P := by cases q : vV x y z p <;> first | rfl | exact absurd q nW | exact absurd q nL
      rw [e]
      exact ⟨rfl, hP⟩
    · rw [if_neg hP]
      have nP : vV x y z p ≠ .P := fun e => hP ((mem _).mpr (best_C v e))
      have e : vV x y z p = .L := by cases q : vV x y z p <;> first | rfl | exact absurd q nW | exact absurd q nP
      rw [e]
      refine ⟨rfl, (mem _).mpr ⟨.pass, decide_eq_true (by unfold Valid at v; simp [dec, F0]; omega), ?_⟩⟩
      have hp : V3.W ≠ rbV x y z p .pass := fun q => hW ((mem _).mpr ⟨.pass, decide_eq_true (by unfold Valid at v; simp [dec, F0]; omega), q.symm⟩)
      have hp2 : V3.P ≠ rbV x y z p .pass := fun q => hP ((mem _).mpr ⟨.pass, decide_eq_true (by unfold Valid at v; simp [dec, F0]; omega), q.symm⟩)
      cases q : rbV x y z p .pass
      · exact absurd q.symm hp
      · exact absurd q.symm hp2
      · rfl
end K74


set_option maxRecDepth 100000
set_option maxHeartbeats 4000000
local macro_rules | `(tactic| rotate_left 902) => `(tactic| (repeat' (first | (with_reducible refine Step.go ?_) | (with_reducible refine i_var (by with_unfolding_all apply Eq.refl) ?_) | (with_reducible refine i_seq ?_) | (with_reducible refine Fork.go (fun h => ?_) (fun h => ?_)) | (with_reducible refine i_ixS (by with_reducible first | assumption | apply mset_same) (by with_unfolding_all apply Eq.refl) ?_) | (with_reducible refine i_ixF (by with_unfolding_all apply Eq.refl) ?_) | (with_reducible refine i_ixT (by with_unfolding_all apply Eq.refl) ?_) | (with_reducible refine i_xfv (by with_unfolding_all apply Eq.refl) ?_) | (with_reducible refine i_isv (by with_unfolding_all apply Eq.refl) ?_) | (with_reducible refine i_isvL (by with_reducible first | assumption | apply mset_same) ?_) | (with_reducible refine i_Tv (by with_unfolding_all apply Eq.refl) ?_) | (with_reducible refine i_Fv (by with_unfolding_all apply Eq.refl) ?_) | (with_reducible refine i_lcC (by first | apply True.intro | with_unfolding_all apply Eq.refl) ?_) | (with_reducible refine i_lcN (by first | apply True.intro | with_unfolding_all apply Eq.refl) ?_) | (with_reducible refine i_forC (by first | apply True.intro | with_unfolding_all apply Eq.refl) ?_) | (with_reducible refine i_forN (by first | apply True.intro | with_unfolding_all apply Eq.refl) ?_) | (with_reducible refine i_sz2 (by with_unfolding_all apply Eq.refl) ?_) | (with_reducible refine i_size (by with_unfolding_all apply Eq.refl) ?_) | (with_reducible refine i_gT (by with_unfolding_all apply Eq.refl) ?_) | (with_reducible refine i_powC (by decide) (by decide) (by decide) ?_) | (with_reducible refine i_setL (by with_reducible first | assumption | apply mset_same) (by with_unfolding_all apply Eq.refl) ?_) | (with_reducible refine i_lenS (by with_reducible first | assumption | apply mset_same) ?_))))
namespace K74
open PySem PySem.Spec PyProof.Rows L2 T2
/-! _law_told -/
def N_told : List Str := ["_law_numbers", "_law_passed", "e"]
def P_told : List Str := ["_law_numbers", "_law_passed"]
def w_told  : WS := (wTry isX_BadNumber 2 (wRet (wTup (wCons (wC (.str "gave")) (wCons (wCallK 3 1 sp_m_race_value (wCons (wOp gIx (wVar 0) (wC (.int 0))) (wCons (wOp gIx (wVar 0) (wC (.int 1))) (wCons (wOp gIx (wVar 0) (wC (.int 2))) wNil))) (wCons (wVar 1) wNil)) wNil)))) fun a ca dx => (wRet (wTup (wCons (wC (.str "BadNumber")) (wCons (wXf a ca dx "what" (wVar 2)) (wCons (wXf a ca dx "value" (wVar 2)) (wCons (wAnd (wXi a ca dx (isX_TworoomsError) (wVar 2)) (wNot (wXi a ca dx (isX_NoEntry) (wVar 2)))) wNil)))))))
def G_told : Gam := ⟨[⟨"race_value", 3, ["after_pass"], false, sp_m_race_value⟩], [], [], [("BadNumber", isX_BadNumber), ("NoEntry", isX_NoEntry), ("TworoomsError", isX_TworoomsError)], ["value", "what"]⟩
def sp_told : SpD := fun ds μ Q _ => ∃ x y z p, ds = [.tup [x, y, z], .bl p] ∧ Sc x ∧ Sc y ∧ Sc z ∧ (∀ i j k, x = .int i → y = .int j → z = .int k → due 1000000 x y z = none → Q (.tup [.str "gave", .str (vS i j k p)]) μ) ∧
  (∀ w d, due 1000000 x y z = some (w, d) → Q (.tup [.str "BadNumber", .str w, d, .bl true]) μ)
theorem pf_told : ∀ ds μ Q E, sp_told ds μ Q E → w_told (endK Q E) (startD N_told ds) μ := by
  rintro ds μ Q E ⟨x, y, z, p, rfl, hx, hy, hz, q1, q2⟩
  unfold w_told
  rotate_left 901
  refine ⟨rfl, rfl, x, y, z, p, rfl, hx, hy, hz, fun h i j k e1 e2 e3 => ?_, fun w d h => ?_⟩
  · rotate_left 901
    exact q1 i j k e1 e2 e3 h
  · rotate_left 901
    intro a ca dx
    rotate_left 901
    exact q2 w d h
/-! _law_is_number -/
def N_is_number : List Str := ["_law_thing", "_law_low", "_law_high"]
def P_is_number : List Str := ["_law_thing", "_law_low", "_law_high"]
def w_is_number  : WS := (wRet (wAnd (wOp gIsNot (wVar 0) (wC .non)) (wAnd (wNot (wIsi .bool (wVar 0))) (wAnd (wIsi .int (wVar 0)) (wChain gLe gLe (wVar 1) (wVar 0) (wVar 2))))))
def G_is_number : Gam := ⟨[], [], [], [], []⟩
def sp_is_number : SpD := fun ds μ Q _ => ∃ d lo hi, ds = [d, .int lo, .int hi] ∧ Sc d ∧ Q (.bl (num lo hi d)) μ
theorem pf_is_number : ∀ ds μ Q E, sp_is_number ds μ Q E → w_is_number (endK Q E) (startD N_is_number ds) μ := by
  rintro ds μ Q E ⟨d, lo, hi, rfl, h, q⟩
  unfold w_is_number
  rcases h with ⟨i, rfl⟩ | ⟨b, rfl⟩ | rfl
  all_goals rotate_left 901
  · have e : num lo hi (.int i) = decide (i ≤ hi) := by unfold num; by_cases h2 : i ≤ hi <;> simp [h, h2]
    rw [e] at q
    exact q
  · have e : num lo hi (.int i) = false := decide_eq_false (by omega)
    rw [e] at q
    exact q
  · exact q
  · exact q
theorem i_num {d : D} {lo hi : Int} {μ : Mu} {Q : PQ} {E : PX} (h : Sc d) (q : Q (.bl (num lo hi d)) μ) : [d, .int lo, .int hi].length = 3 ∧ sp_is_number [d, .int lo, .int hi] μ Q E := ⟨rfl, d, lo, hi, rfl, h, q⟩
/-! _law_race_due -/
def N_race_due : List Str := ["_law_own", "_law_other", "_law_shared", "_law_high"]
def P_race_due : List Str := ["_law_own", "_law_other", "_law_shared", "_law_high"]
abbrev w_race_due_p0 : WS := (wSeq (wIfS (wNotT (wTru (wCall 3 sp_is_number (wCons (wVar 1) (wCons (wC (.int 0)) (wCons (wVar 3) wNil)))))) (wRet (wTup (wCons (wC (.str "other")) (wCons (wVar 1) wNil)))) wNext)
  (wSeq (wIfS (wNotT (wTru (wCall 3 sp_is_number (wCons (wVar 2) (wCons (wC (.int 0)) (wCons (wVar 3) wNil)))))) (wRet (wTup (wCons (wC (.str "shared")) (wCons (wVar 2) wNil)))) wNext)
  (wSeq (wIfS (wTB (wOp gEq (wOp gAdd (wVar 0) (wVar 2)) (wC (.int 0)))) (wRet (wTup (wCons (wC (.str "own")) (wCons (wVar 0) wNil)))) wNext)
  (wSeq (wIfS (wTB (wOp gEq (wOp gAdd (wVar 1) (wVar 2)) (wC (.int 0)))) (wRet (wTup (wCons (wC (.str "other")) (wCons (wVar 1) wNil)))) wNext)
  (wRet (wC .non))))))
def w_race_due  : WS := (wSeq (wIfS (wNotT (wTru (wCall 3 sp_is_number (wCons (wVar 0) (wCons (wC (.int 0)) (wCons (wVar 3) wNil)))))) (wRet (wTup (wCons (wC (.str "own")) (wCons (wVar 0) wNil)))) wNext)
  w_race_due_p0)
def G_race_due : Gam := ⟨[⟨"_law_is_number", 3, [], false, sp_is_number⟩], [], [], [], []⟩
def sp_race_due : SpD := fun ds μ Q _ => ∃ x y z hi, ds = [x, y, z, .int hi] ∧ Sc x ∧ Sc y ∧ Sc z ∧ (due hi x y z = none → Q .non μ) ∧ ∀ w d, due hi x y z = some (w, d) → Q (.tup [.str w, d]) μ
theorem pf_race_due : ∀ ds μ Q E, sp_race_due ds μ Q E → w_race_due (endK Q E) (startD N_race_due ds) μ := by
  rintro ds μ Q E ⟨x, y, z, hi, rfl, hx, hy, hz, q1, q2⟩
  unfold w_race_due
  rotate_left 901
  refine i_num hx ?_
  cases hx1 : num 0 hi x with
  | false =>
    rotate_left 901
    exact q2 _ _ (by unfold due due3; rw [if_pos hx1])
  | true =>
    rotate_left 901
    refine i_num hy ?_
    cases hy1 : num 0 hi y with
    | false =>
      rotate_left 901
      exact q2 _ _ (by unfold due due3; rw [if_neg (by rw [hx1]; decide), if_pos hy1])
    | true =>
      rotate_left 901
      refine i_num hz ?_
      cases hz1 : num 0 hi z with
      | false =>
        rotate_left 901
        exact q2 _ _ (by unfold due due3; rw [if_neg (by rw [hx1]; decide), if_neg (by rw [hy1]; decide), if_pos hz1])
      | true =>
        obtain ⟨i, rfl, _⟩ := num_ok hx1
        obtain ⟨j, rfl, _⟩ := num_ok hy1
        obtain ⟨k, rfl, _⟩ := num_ok hz1
        have e : due hi (.int i) (.int j) (.int k) = if i + k = 0 then some (("own" : Str), D.int i) else if j + k = 0 then some (("other" : Str), D.int j) else none := by
          unfold due due3
          rw [if_neg (by rw [hx1]; decide), if_neg (by rw [hy1]; decide), if_neg (by rw [hz1]; decide)]
          rfl
        rw [e] at q1 q2
        rotate_left 901
        · exact q2 _ _ (if_pos h)
        · exact q2 _ _ ((if_neg (by assumption)).trans (if_pos h))
        · exact q1 ((if_neg (by assumption)).trans (if_neg h))
/-! _law_race_value -/
def N_race_value : List Str := ["_law_own", "_law_other", "_law_shared", "_law_passed"]
def P_race_value : List Str := ["_law_own", "_law_other", "_law_shared", "_law_passed"]
def w_race_value  : WS := (wSeq (wIfS (wTB (wOp gGe (wOp gSub (wVar 0) (wVar 1)) (wCB gMax (wCons (wOp gSub (wVar 2) (wC (.int 1))) (wCons (wC (.int 0)) wNil))))) (wRet (wC (.str "wins"))) wNext)
  (wSeq (wIfS (wAndT (wTB (wOp gGe (wOp gSub (wVar 1) (wVar 0)) (wCB gMax (wCons (wVar 2) (wCons (wC (.int 1)) wNil))))) (wNotT (wTru (wVar 3)))) (wRet (wC (.str "loses"))) wNext)
  (wRet (wC (.str "peace")))))
def G_race_value : Gam := ⟨[], [], [], [], []⟩
def sp_race_value : SpD := fun ds μ Q E => ∃ (x y z : Int) (p : Bool), ds = [.int x, .int y, .int z, .bl p] ∧ Q (.str (vS x y z p)) μ
theorem pf_race_value : ∀ ds μ Q E, sp_race_value ds μ Q E → w_race_value (endK Q E) (startD N_race_value ds) μ := by
  rintro ds μ Q E ⟨x, y, z, p, rfl, q⟩
  unfold w_race_value
  rotate_left 901
  · have e : vS x y z p = "wins" := if_pos h
    rw [e] at q
    exact q
  · cases p
    all_goals rotate_left 901
    · have e : vS x y z false = "loses" := (if_neg (by assumption)).trans (if_pos ⟨h, rfl⟩)
      rw [e] at q
      exact q
    · have e : vS x y z true = "peace" := (if_neg (by assumption)).trans (if_neg fun z => by cases z.2)
      rw [e] at q
      exact q
  · have e : vS x y z p = "peace" := (if_neg (by assumption)).trans (if_neg fun z => h z.1)
    rw [e] at q
    exact q
/-! ### what is left, as a dict -/
def D4 (f : Wo → Int) : List (Key × D) := [(.inr Wo.own.s, .int (f .own)), (.inr Wo.fill.s, .int (f .fill)), (.inr Wo.share.s, .int (f .share)), (.inr Wo.pass.s, .int (f .pass))]
theorem D4_look (f : Wo → Int) : ∀ w : Wo, look (D4 f) (.inr w.s) = some (.int (f w))
  | .own => by kernel_rfl
  | .fill => by kernel_rfl
  | .share => by kernel_rfl
  | .pass => by kernel_rfl
theorem D4_put (f : Wo → Int) : ∀ w : Wo, kput (D4 f) (.inr w.s) (.int (f w - 1)) = D4 (dec f w)
  | .own => by kernel_rfl
  | .fill => by kernel_rfl
  | .share => by kernel_rfl
  | .pass => by kernel_rfl
theorem D4_merge (f : Wo → Int) : kmerge [] (D4 f) = D4 f := by kernel_rfl
theorem i_mk4 {x y z p : Int} {P : List (Key × D) → Prop} (q : P (D4 (F0 x y z p))) : ∃ ks, keysOf [(.str "own", .int x), (.str "fill", .int y), (.str "share", .int z), (.str "pass", .int p)] = some ks ∧ ks.length ≤ 15 ∧ P ks := ⟨D4 (F0 x y z p), rfl, (by decide : 4 ≤ 15), q⟩
theorem i_ix4 {a : Addr} {f : Wo → Int} {w : Wo} {μ : Mu} {Q : PQ} (h : μ a = some (.dct (D4 f))) (q : Q (.int (f w)) μ) : gIx (.raw a) (.str w.s) μ Q := i_ixK (getK_raw h) rfl (D4_look f w) q
theorem i_set4 {a : Addr} {f : Wo → Int} {w : Wo} {μ : Mu} {Q : Mu → Prop} (h : μ a = some (.dct (D4 f))) (q : Q (mset μ a (.dct (D4 (dec f w))))) : gSet (.raw a) (.str w.s) (.int (f w - 1)) μ Q := i_setK h rfl (show (D4 f).length < sizeLine from (by decide : 4 < sizeLine)) (by rw [D4_put]; exact q)
/-! _law_led -/
def N_led : List Str := ["_law_numbers", "_law_deed", "_law_left"]
def P_led : List Str := ["_law_numbers", "_law_deed"]
def w_led  : WS := (wSeq (wAsg 2 (wDictM [((wC (.str "own")), (wOp gIx (wVar 0) (wC (.int 0)))), ((wC (.str "fill")), (wOp gIx (wVar 0) (wC (.int 1)))), ((wC (.str "share")), (wOp gIx (wVar 0) (wC (.int 2)))), ((wC (.str "pass")), (wC (.int 0)))]))
  (wSeq (wSet gSet (wVar 2) (wVar 1) (wOp gSub (wOp gIx (wVar 2) (wVar 1)) (wC (.int 1))))
  (wSeq (wIfS (wTB (wOp gEq (wOp gAdd (wOp gIx (wVar 2) (wC (.str "fill"))) (wOp gIx (wVar 2) (wC (.str "share")))) (wC (.int 0)))) (wRet (wC .non)) wNext)
  (wRet (wTup (wCons (wOp gIx (wVar 2) (wC (.str "fill"))) (wCons (wOp gIx (wVar 2) (wC (.str "own"))) (wCons (wOp gIx (wVar 2) (wC (.str "share"))) wNil))))))))
def G_led : Gam := ⟨[], [], [], [], []⟩
def sp_led : SpD := fun ds μ Q _ => ∃ x y z w, ds = [.tup [.int x, .int y, .int z], .str (Wo.s w)] ∧ (dec (F0 x y z 0) w .fill + dec (F0 x y z 0) w .share = 0 → Q .non μ) ∧
  (dec (F0 x y z 0) w .fill + dec (F0 x y z 0) w .share ≠ 0 → Q (.tup [.int (dec (F0 x y z 0) w .fill), .int (dec (F0 x y z 0) w .own), .int (dec (F0 x y z 0) w .share)]) μ)
theorem pf_led : ∀ ds μ Q E, sp_led ds μ Q E → w_led (endK Q E) (startD N_led ds) μ := by
  rintro ds μ Q E ⟨x, y, z, w, rfl, q1, q2⟩
  unfold w_led
  rotate_left 902
  refine i_mk4 ?_
  intro a ha
  rw [D4_merge]
  rotate_left 902
  refine i_ix4 mset_same ?_
  rotate_left 902
  refine i_set4 mset_same ?_
  rw [mset_mset]
  rotate_left 902
  refine i_ix4 (w := .fill) mset_same ?_
  rotate_left 902
  refine i_ix4 (w := .share) mset_same ?_
  rotate_left 902
  · exact i_back (less_new ha) (q1 h)
  · refine i_ix4 (w := .fill) mset_same ?_
    rotate_left 902
    refine i_ix4 (w := .own) mset_same ?_
    rotate_left 902
    refine i_ix4 (w := .share) mset_same ?_
    rotate_left 902
    exact i_back (less_new ha) (q2 h)
end K74


set_option maxRecDepth 100000
set_option maxHeartbeats 4000000
namespace K74
open PySem PySem.Spec PyProof.Rows L2 T2
theorem Wo.eqs (w v : Wo) : decide (w.s = v.s) = decide (w = v) := by cases w <;> cases v <;> decide +kernel
theorem Wo.inj {w v : Wo} (h : w.s = v.s) : w = v := by
  have := Wo.eqs w v
  rw [decide_eq_true h] at this
  exact of_decide_eq_true this.symm
theorem Wo.sf {w : Wo} : (w.s = ("fill" : Str)) ↔ w = .fill := ⟨fun h => Wo.inj (v := .fill) h, fun h => by rw [h]; rfl⟩
theorem Wo.ss {w : Wo} : (w.s = ("share" : Str)) ↔ w = .share := ⟨fun h => Wo.inj (v := .share) h, fun h => by rw [h]; rfl⟩
theorem Wo.sp {w : Wo} : (w.s = ("pass" : Str)) ↔ w = .pass := ⟨fun h => Wo.inj (v := .pass) h, fun h => by rw [h]; rfl⟩
abbrev rw3 (x y z : Int) : D := .tup [.int x, .int y, .int z]
/-! _law_open_words -/
def N_open_words : List Str := ["_law_numbers", "_law_words", "_law_word", "_law_left", "_law_takes", "_law_lives"]
def P_open_words : List Str := ["_law_numbers"]
abbrev w_open_words_p0 : WS := (wSeq (wAsg 4 (wOp gEq (wOp gAdd (wOp gIx (wVar 3) (wC (.str "fill"))) (wOp gIx (wVar 3) (wC (.str "share")))) (wC (.int 0))))
    (wSeq (wAsg 5 (wOr (wOp gGt (wOp gAdd (wOp gIx (wVar 3) (wC (.str "own"))) (wOp gIx (wVar 3) (wC (.str "share")))) (wC (.int 0))) (wOr (wOp gEq (wVar 2) (wC (.str "fill"))) (wAnd (wOp gEq (wVar 2) (wC (.str "share"))) (wVar 4)))))
    (wIfS (wAndT (wTB (wOp gGe (wOp gIx (wVar 3) (wVar 2)) (wC (.int 0)))) (wTru (wVar 5))) (wDrop (wMt "list" gAppend (wVar 1) (wCons (wVar 2) wNil))) wNext)))
abbrev w_open_words_p1 : WS := (wSeq (wFor (wIt (wLst (wCons (wC (.str "fill")) (wCons (wC (.str "share")) (wCons (wC (.str "own")) (wCons (wC (.str "pass")) wNil)))))) (wgName 2) (wSeq (wAsg 3 (wDictM [((wC (.str "own")), (wOp gIx (wVar 0) (wC (.int 0)))), ((wC (.str "fill")), (wOp gIx (wVar 0) (wC (.int 1)))), ((wC (.str "share")), (wOp gIx (wVar 0) (wC (.int 2)))), ((wC (.str "pass")), (wC (.int 1)))]))
    (wSeq (wSet gSet (wVar 3) (wVar 2) (wOp gSub (wOp gIx (wVar 3) (wVar 2)) (wC (.int 1))))
    w_open_words_p0)))
  (wRet (wVar 1)))
def w_open_words  : WS := (wSeq (wAsg 1 (wLstM wNil))
  w_open_words_p1)
def G_open_words : Gam := ⟨[], [], [], [], []⟩
def sp_open_words : SpD := fun ds μ Q _ => ∃ x y z, ds = [rw3 x y z] ∧ Q (.lst ((opn x y z).map fun w => .str w.s)) μ
theorem pf_open_words : ∀ ds μ Q E, sp_open_words ds μ Q E → w_open_words (endK Q E) (startD N_open_words ds) μ := by
  rintro ds μ Q E ⟨x, y, z, rfl, q⟩
  unfold w_open_words
  rotate_left 902
  intro a ha
  rotate_left 902
  refine Or.inl ⟨_, rfl, ?_⟩
  refine forLoop_inv (fun rem ρ μ' => Less μ μ' ∧ ∃ don tod : List Wo, don ++ tod = four ∧ rem = tod.map (fun w => .str w.s) ∧ (∃ x2 x3 x4 x5, ρ = [some (rw3 x y z), some (.raw a), x2, x3, x4, x5]) ∧ μ' a = some (.lst ((don.filter (opB x y z)).map fun w => .str w.s))) (fun _ _ _ _ => rfl) ?_ ?_ _ _ _
    ⟨less_new ha, [], four, rfl, rfl, ⟨none, none, none, none, rfl⟩, mset_same⟩
  · rintro ρ μ' ⟨hl, don, tod, e, e2, ⟨x2, x3, x4, x5, rfl⟩, h1⟩
    have : tod = [] := List.map_eq_nil_iff.mp e2.symm
    subst this
    rw [List.append_nil] at e
    subst e
    rotate_left 902
    exact i_backL hl ha h1 q
  · rintro d ds ρ μ' ⟨hl, don, tod, e, e2, ⟨x2, x3, x4, x5, rfl⟩, h1⟩ nx hnx
    cases tod with
    | nil => cases e2
    | cons w tod =>
      obtain ⟨e3, e4⟩ := List.cons.inj e2
      have e3 : d = .str w.s := e3
      subst e3 e4
      have hlen : don.length ≤ 4 := by
        have := congrArg List.length e
        rw [List.length_append] at this
        have h4 : four.length = 4 := rfl
        omega
      have hfl : (don.filter (opB x y z)).length ≤ 4 := Nat.le_trans (List.length_filter_le _ _) hlen
      have fin : ∀ b μ'', opB x y z w = b → Less μ μ'' → μ'' a = some (.lst (((don.filter (opB x y z)).map fun w => .str w.s) ++ (if b then [.str w.s] else []))) → ∀ x2 x3 x4 x5, nx [some (rw3 x y z), some (.raw a), x2, x3, x4, x5] μ'' := fun b μ'' hb hl'' h'' x2 x3 x4 x5 => by
        refine hnx _ _ ⟨hl'', don ++ [w], tod, by rw [List.append_assoc]; exact e, rfl, ⟨x2, x3, x4, x5, rfl⟩, ?_⟩
        rw [h'', List.filter_append, List.map_append]
        cases b
        · rw [List.filter_cons_of_neg (by rw [hb]; decide)]; rfl
        · rw [List.filter_cons_of_pos hb]; rfl
      rotate_left 902
      refine i_mk4 ?_
      intro b hb
      rw [D4_merge]
      have hb0 : μ b = none := less_none hl hb
      have hba : a ≠ b := fun z => by subst z; rw [hb] at h1; cases h1
      rotate_left 902
      refine i_ix4 mset_same ?_
      rotate_left 902
      refine i_set4 mset_same ?_
      rw [mset_mset]
      have hl2 : Less μ (mset μ' b (.dct (D4 (dec (F0 x y z 1) w)))) := less_put hl hb0
      have ha2 : (mset μ' b (.dct (D4 (dec (F0 x y z 1) w)))) a = some (.lst ((don.filter (opB x y z)).map fun w => .str w.s)) := by rw [mset_ne hba]; exact h1
      rotate_left 902
      refine i_ix4 (w := .fill) mset_same ?_
      rotate_left 902
      refine i_ix4 (w := .share) mset_same ?_
      rotate_left 902
      refine i_ix4 (w := .own) mset_same ?_
      rotate_left 902
      refine i_ix4 (w := .share) mset_same ?_
      rotate_left 902
      all_goals (refine i_ix4 mset_same ?_; rotate_left 902)
      all_goals simp only [Wo.sf, Wo.ss] at *
      all_goals first
        | (refine ⟨tymL ha2, ?_⟩
           rotate_left 902
           refine ⟨a, _, _, rfl, rfl, ha2, by rw [List.length_map]; exact Nat.lt_of_le_of_lt hfl (by decide), ?_⟩
           rotate_left 902
           refine fin true _ ?_ (less_put hl2 ha) (by rw [mset_same]; rfl) _ _ _ _
           unfold opB
           simp_all)
        | (refine fin false _ ?_ hl2 (by rw [ha2]; simp) _ _ _ _
           unfold opB
           simp_all
           done)
        | exact fin false _ (decide_eq_false fun q => absurd q.1 (by assumption)) hl2 (by rw [ha2]; simp) _ _ _ _
        | (exfalso; simp_all; done)
theorem V3.look : ∀ v : V3, look (kmerge [] [(.inr "wins", .str "loses"), (.inr "peace", .str "peace"), (.inr "loses", .str "wins")]) (.inr v.s) = some (.str v.flip.s)
  | .W => by kernel_rfl
  | .P => by kernel_rfl
  | .L => by kernel_rfl
theorem i_get3 {v : V3} {μ : Mu} {Q : PQ} (q : Q (.str v.flip.s) μ) : gGet (.dct (kmerge [] [(.inr "wins", .str "loses"), (.inr "peace", .str "peace"), (.inr "loses", .str "wins")])) [.str v.s, .str "none"] μ Q :=
  ⟨_, .str v.s, _, rfl, rfl, .inr ⟨.str "none", rfl, by rw [V3.look]; exact q⟩⟩
theorem due_valid {x y z : Int} (v : Valid x y z) : due 1000000 (.int x) (.int y) (.int z) = none := by
  unfold Valid at v
  unfold due due3
  have h1 : num 0 1000000 (.int x) = true := decide_eq_true (by omega)
  have h2 : num 0 1000000 (.int y) = true := decide_eq_true (by omega)
  have h3 : num 0 1000000 (.int z) = true := decide_eq_true (by omega)
  rw [if_neg (by rw [h1]; decide), if_neg (by rw [h2]; decide), if_neg (by rw [h3]; decide)]
  show (if x + z = 0 then some (("own" : Str), D.int x) else if y + z = 0 then some (("other" : Str), D.int y) else none) = none
  rw [if_neg (by omega), if_neg (by omega)]
theorem i_told {x y z : Int} {p : Bool} {μ : Mu} {Q : PQ} {E : PX} (v : Valid x y z) (q : Q (.tup [.str "gave", .str (vV x y z p).s]) μ) : [rw3 x y z, .bl p].length = 2 ∧ sp_told [rw3 x y z, .bl p] μ Q E :=
  ⟨rfl, _, _, _, p, rfl, .inl ⟨_, rfl⟩, .inl ⟨_, rfl⟩, .inl ⟨_, rfl⟩, fun i j k e1 e2 e3 _ => by
    cases e1; cases e2; cases e3; rw [vS_eq]; exact q, fun w d h => by rw [due_valid v] at h; cases h⟩
/-! _law_reached_by -/
def N_reached_by : List Str := ["_law_numbers", "_law_word", "_law_passed", "_law_later", "_law_told_here"]
def P_reached_by : List Str := ["_law_numbers", "_law_word", "_law_passed"]
abbrev w_reached_by_p0 : WS := (wSeq (wAsg 4 (wCall 2 sp_told (wCons (wVar 3) (wCons (wOp gEq (wVar 1) (wC (.str "pass"))) wNil))))
  (wSeq (wIfS (wOrT (wTB (wOp gNe (wOp gIx (wVar 4) (wC (.int 0))) (wC (.str "gave")))) (wNotT (wTru (wIsi .str (wOp gIx (wVar 4) (wC (.int 1))))))) (wRet (wC (.str "none"))) wNext)
  (wRet (wMt "dict" gGet (wDict [((wC (.str "wins")), (wC (.str "loses"))), ((wC (.str "peace")), (wC (.str "peace"))), ((wC (.str "loses")), (wC (.str "wins")))]) (wCons (wOp gIx (wVar 4) (wC (.int 1))) (wCons (wC (.str "none")) wNil))))))
def w_reached_by  : WS := (wSeq (wAsg 3 (wCall 2 sp_led (wCons (wVar 0) (wCons (wVar 1) wNil))))
  (wSeq (wIfS (wTB (wOp gIs (wVar 3) (wC .non))) (wRet (wC (.str "wins"))) wNext)
  (wSeq (wIfS (wAndT (wTB (wOp gEq (wVar 1) (wC (.str "pass")))) (wTru (wVar 2))) (wRet (wC (.str "peace"))) wNext)
  w_reached_by_p0)))
def G_reached_by : Gam := ⟨[⟨"_law_told", 2, [], false, sp_told⟩, ⟨"_law_led", 2, [], false, sp_led⟩], [], [], [], []⟩
def sp_reached_by : SpD := fun ds μ Q _ => ∃ x y z w p, ds = [rw3 x y z, .str (Wo.s w), .bl p] ∧ Valid x y z ∧ opB x y z w = true ∧ Q (.str (rbV x y z p w).s) μ
theorem pf_reached_by : ∀ ds μ Q E, sp_reached_by ds μ Q E → w_reached_by (endK Q E) (startD N_reached_by ds) μ := by
  rintro ds μ Q E ⟨x, y, z, w, p, rfl, v, ho, q⟩
  unfold w_reached_by
  rotate_left 901
  refine ⟨rfl, x, y, z, w, rfl, fun hn => ?_, fun hn => ?_⟩
  · rotate_left 901
    have e : rbV x y z p w = .W := if_pos hn
    rw [e] at q
    exact q
  · have v2 := valid_later v ho hn
    have e : rbV x y z p w = if w = .pass ∧ p = true then .P else (vV (dec (F0 x y z 0) w .fill) (dec (F0 x y z 0) w .own) (dec (F0 x y z 0) w .share) (decide (w = .pass))).flip := if_neg hn
    rotate_left 901
    · have hw := Wo.sp.mp h
      cases p with
      | true =>
        rw [if_pos ⟨hw, rfl⟩] at e
        rw [e] at q
        rotate_left 901
        exact q
      | false =>
        rw [if_neg (by rintro ⟨_, z⟩; cases z)] at e
        rw [e] at q
        rotate_left 901
        have ed : decide (w.s = ("pass" : Str)) = decide (w = .pass) := Wo.eqs w .pass
        rw [ed]
        refine i_told v2 ?_
        rotate_left 901
        · exact absurd rfl h
        · refine ⟨_, rfl, (by decide : 3 ≤ 15), rfl, ?_⟩
          rotate_left 901
          refine i_get3 ?_
          rotate_left 901
          exact q
    · have hw : ¬ w = .pass := fun z => h (Wo.sp.mpr z)
      rw [if_neg (by rintro ⟨z, _⟩; exact hw z)] at e
      rw [e] at q
      have ed : decide (w.s = ("pass" : Str)) = decide (w = .pass) := Wo.eqs w .pass
      rw [ed]
      refine i_told v2 ?_
      rotate_left 901
      · exact absurd rfl h
      · refine ⟨_, rfl, (by decide : 3 ≤ 15), rfl, ?_⟩
        rotate_left 901
        refine i_get3 ?_
        rotate_left 901
        exact q
end K74


set_option maxRecDepth 100000
set_option maxHeartbeats 4000000
namespace K74
open PySem PySem.Spec PyProof.Rows L2 T2
theorem eqS_str {a b : Str} : eqS (.str a) (.str b) = decide (a = b) := by
  unfold eqS
  by_cases h : a = b
  · rw [decide_eq_true h]; exact beq_iff_eq.mpr h
  · rw [decide_eq_false h]; exact Bool.eq_false_iff.mpr fun z => h (beq_iff_eq.mp z)
theorem flatV3 (vs : List V3) : (vs.map fun v => D.str v.s).all flat = true := by
  rw [List.all_eq_true]
  intro d hd
  obtain ⟨v, _, rfl⟩ := List.mem_map.mp hd
  rfl
theorem i_inV {v : V3} {vs : List V3} {μ : Mu} {Q : PQ} (q : Q (.bl (decide (v ∈ vs))) μ) : gIn false (.str v.s) (.lst (vs.map fun v => .str v.s)) μ Q := by
  refine Or.inl ⟨_, rfl, rfl, flatV3 vs, ?_⟩
  have e : ((vs.map fun v => D.str v.s).any fun d => eqS d (.str v.s)) = decide (v ∈ vs) := by
    clear q
    induction vs with
    | nil => rfl
    | cons a r ih =>
      rw [List.map_cons, List.any_cons, ih, eqS_str]
      by_cases h : a = v
      · subst h; simp
      · have h2 : ¬ a.s = v.s := fun z => h (V3.inj z)
        rw [decide_eq_false h2]
        have : (v ∈ a :: r) ↔ v ∈ r := by simp [List.mem_cons, Ne.symm h]
        simp [this]
  rw [e]
  cases z : decide (v ∈ vs) <;> rw [z] at q <;> exact q
theorem i_inN {vs : List V3} {μ : Mu} {Q : PQ} (q : Q (.bl false) μ) : gIn false (.str "none") (.lst (vs.map fun v => .str v.s)) μ Q := by
  refine Or.inl ⟨_, rfl, rfl, flatV3 vs, ?_⟩
  have e : ((vs.map fun v => D.str v.s).any fun d => eqS d (.str "none")) = false := by
    rw [List.any_eq_false]
    intro d hd
    obtain ⟨v, _, rfl⟩ := List.mem_map.mp hd
    cases v <;> decide +kernel
  rw [e]
  exact q
/-! _law_step_right -/
def N_step_right : List Str := ["_law_numbers", "_law_passed", "_law_reached", "_law_word", "_law_best"]
def P_step_right : List Str := ["_law_numbers", "_law_passed"]
abbrev w_step_right_p0 : WS := (wSeq (wAsg 4 (wOp gIx (wLc (wIt (wLst (wCons (wC (.str "wins")) (wCons (wC (.str "peace")) (wCons (wC (.str "loses")) wNil))))) (wgName 3) (wTB (wOp (gIn false) (wVar 3) (wVar 2))) (wVar 3)) (wC (.int 0))))
  (wSeq (wIfS (wTB (wOp gNe (wVar 4) (wCall 4 sp_race_value (wCons (wOp gIx (wVar 0) (wC (.int 0))) (wCons (wOp gIx (wVar 0) (wC (.int 1))) (wCons (wOp gIx (wVar 0) (wC (.int 2))) (wCons (wVar 1) wNil))))))) (wRet (wC (.bl false))) wNext)
  (wRet (wCall 2 sp_same1 (wCons (wCall 2 sp_told (wCons (wVar 0) (wCons (wVar 1) wNil))) (wCons (wTup (wCons (wC (.str "gave")) (wCons (wVar 4) wNil))) wNil))))))
def w_step_right  : WS := (wSeq (wAsg 2 (wLc (wIt (wCall 1 sp_open_words (wCons (wVar 0) wNil))) (wgName 3) wYes (wCall 3 sp_reached_by (wCons (wVar 0) (wCons (wVar 3) (wCons (wVar 1) wNil))))))
  (wSeq (wIfS (wTB (wOp (gIn false) (wC (.str "none")) (wVar 2))) (wRet (wC (.bl false))) wNext)
  w_step_right_p0))
def G_step_right : Gam := ⟨[⟨"_law_same", 2, [], false, sp_same1⟩, ⟨"_law_told", 2, [], false, sp_told⟩, ⟨"_law_race_value", 4, [], false, sp_race_value⟩, ⟨"_law_open_words", 1, [], true, sp_open_words⟩, ⟨"_law_reached_by", 3, [], false, sp_reached_by⟩], [], [], [], []⟩
def sp_step_right : SpD := fun ds μ Q _ => ∃ x y z p, ds = [rw3 x y z, .bl p] ∧ Valid x y z ∧ Q (.bl true) μ
theorem pf_step_right : ∀ ds μ Q E, sp_step_right ds μ Q E → w_step_right (endK Q E) (startD N_step_right ds) μ := by
  rintro ds μ Q E ⟨x, y, z, p, rfl, v, q⟩
  unfold w_step_right
  rotate_left 901
  refine ⟨rfl, x, y, z, rfl, ?_⟩
  rotate_left 901
  refine Or.inl ⟨_, rfl, ?_⟩
  refine lcLoop_inv (fun rem acc μ' => μ' = μ ∧ ∃ don tod : List Wo, don ++ tod = opn x y z ∧ acc = don.map (fun w => .str (rbV x y z p w).s) ∧ rem = tod.map fun w => .str w.s) (fun _ _ _ _ => rfl) ?_ ?_ _ _ _ ⟨rfl, [], _, rfl, rfl, rfl⟩
  · rintro acc μ' ⟨rfl, don, tod, e, rfl, e3⟩
    have : tod = [] := List.map_eq_nil_iff.mp e3.symm
    subst this
    rw [List.append_nil] at e
    subst e
    obtain ⟨vs, hvs⟩ : ∃ vs, vs = (opn x y z).map (rbV x y z p) := ⟨_, rfl⟩
    have e4 : (opn x y z).map (fun w => D.str (rbV x y z p w).s) = vs.map fun v => .str v.s := by rw [hvs, List.map_map]; rfl
    rw [e4]
    obtain ⟨b1, b2⟩ := best_ok p v
    rw [← hvs] at b1 b2
    rotate_left 901
    refine i_inN ?_
    rotate_left 901
    refine Or.inl ⟨_, rfl, rfl, ?_⟩
    rotate_left 901
    refine i_inV (v := .W) ?_
    rotate_left 901
    all_goals (refine i_inV (v := .P) ?_; rotate_left 901)
    all_goals (refine i_inV (v := .L) ?_; rotate_left 901)
    all_goals unfold bestV at b1
    all_goals first
      | rw [if_pos (by assumption)] at b1
      | rw [if_neg (by assumption), if_pos (by assumption)] at b1
      | rw [if_neg (by assumption), if_neg (by assumption)] at b1
    all_goals rw [← b1] at b2
    all_goals have qt : ∀ b, b = true → Q (.bl b) μ' := fun b hb => hb ▸ q
    all_goals first
      | exact absurd b2 (by assumption)
      | (refine ⟨rfl, x, y, z, p, rfl, ?_⟩
         rw [vS_eq, ← b1]
         rotate_left 901
         · exact absurd rfl h
         · refine i_told v ?_
           rw [← b1]
           rotate_left 901
           refine ⟨rfl, _, _, rfl, (by decide : 2 < 1000), rfl, rfl, ?_⟩
           rotate_left 901
           exact qt _ (by decide +kernel))
  · rintro d ds acc μ' ⟨rfl, don, tod, e, rfl, e3⟩ Z hZ
    cases tod with
    | nil => cases e3
    | cons w tod =>
      obtain ⟨e5, e6⟩ := List.cons.inj e3
      have e5 : d = .str w.s := e5
      subst e5 e6
      have hw : w ∈ opn x y z := by rw [← e]; simp
      have hlen : don.length ≤ 4 := by
        have h1 : (opn x y z).length ≤ 4 := List.length_filter_le _ _
        rw [← e, List.length_append] at h1
        omega
      rotate_left 901
      refine ⟨rfl, x, y, z, w, p, rfl, v, (List.mem_filter.mp hw).2, ?_⟩
      exact ⟨by rw [List.length_map]; exact Nat.lt_of_le_of_lt hlen (by decide), hZ _ _ ⟨rfl, don ++ [w], tod, by rw [List.append_assoc]; exact e, by rw [List.map_append]; rfl, rfl⟩⟩
theorem i_right {x y z : Int} {p : Bool} {μ : Mu} {Q : PQ} {E : PX} (v : Valid x y z) (q : Q (.bl true) μ) : [rw3 x y z, .bl p].length = 2 ∧ sp_step_right [rw3 x y z, .bl p] μ Q E := ⟨rfl, x, y, z, p, rfl, v, q⟩
/-! _law_race -/
def N_race : List Str := ["_law_store_here", "_law_high", "_law_shared", "_law_other", "_law_own"]
def P_race : List Str := ["_law_store_here", "_law_high"]
abbrev w_race_p0 : WS := (wSeq (wAsg 4 (wOp gAdd (wVar 3) (wCall 2 sp_pick (wCons (wVar 0) (wCons (wLst (wCons (wOp gSub (wVar 2) (wC (.int 2))) (wCons (wOp gSub (wVar 2) (wC (.int 1))) (wCons (wVar 2) (wCons (wOp gSub (wC (.int 1)) (wVar 2)) (wCons (wUn gNeg (wVar 2)) (wCons (wOp gSub (wUn gNeg (wC (.int 1))) (wVar 2)) (wCons (wC (.int 0)) (wCons (wC (.int 1)) (wCons (wUn gNeg (wC (.int 1))) wNil)))))))))) wNil)))))
    (wAsg 4 (wCB gMax (wCons (wC (.int 0)) (wCons (wCB gMin (wCons (wVar 1) (wCons (wVar 4) wNil))) wNil)))))
abbrev w_race_p1 : WS := (wSeq (wIfS (wTru (wCall 2 sp_chance (wCons (wVar 0) (wCons (wC (.int 3)) wNil)))) (wSeq (wAsg 3 (wCall 2 sp_take (wCons (wVar 0) (wCons (wOp gAdd (wVar 1) (wC (.int 1))) wNil))))
    w_race_p0) wNext)
  (wSeq (wIfS (wTB (wOp gEq (wVar 2) (wC (.int 0)))) (wRet (wTup (wCons (wCB gMax (wCons (wC (.int 1)) (wCons (wVar 4) wNil))) (wCons (wCB gMax (wCons (wC (.int 1)) (wCons (wVar 3) wNil))) (wCons (wC (.int 0)) wNil))))) wNext)
  (wRet (wTup (wCons (wVar 4) (wCons (wVar 3) (wCons (wVar 2) wNil)))))))
def w_race  : WS := (wSeq (wAsg 2 (wCall 3 sp_number (wCons (wVar 0) (wCons (wC (.int 0)) (wCons (wVar 1) wNil)))))
  (wSeq (wIfS (wTru (wCall 2 sp_chance (wCons (wVar 0) (wCons (wC (.int 2)) wNil)))) (wAsg 2 (wCall 2 sp_take (wCons (wVar 0) (wCons (wOp gAdd (wCB gMin (wCons (wVar 1) (wCons (wC (.int 4)) wNil))) (wC (.int 1))) wNil)))) wNext)
  (wSeq (wAsg 3 (wCall 3 sp_number (wCons (wVar 0) (wCons (wC (.int 0)) (wCons (wVar 1) wNil)))))
  (wSeq (wAsg 4 (wCall 3 sp_number (wCons (wVar 0) (wCons (wC (.int 0)) (wCons (wVar 1) wNil)))))
  w_race_p1))))
def G_race : Gam := ⟨[⟨"_law_chance", 2, [], false, sp_chance⟩, ⟨"_law_pick", 2, [], false, sp_pick⟩, ⟨"_law_take", 2, [], false, sp_take⟩, ⟨"_law_number", 3, [], false, sp_number⟩], [], [], [], []⟩
def sp_race : SpD := fun ds μ Q _ => ∃ (a : Addr) (o : MO) (b hi : Int), ds = [.raw a, .int hi] ∧ μ a = some o ∧ StO b o ∧ b < 10000000000000000 ∧ 1 ≤ hi ∧ hi ≤ 1000000 ∧ ∀ x y z o', (Valid x y z ∧ x ≤ hi ∧ y ≤ hi ∧ z ≤ hi) → StO (b + 12) o' → Q (rw3 x y z) (mset μ a o')
theorem pf_race : ∀ ds μ Q E, sp_race ds μ Q E → w_race (endK Q E) (startD N_race ds) μ := by
  rintro ds μ Q E ⟨a, o, b, hi, rfl, hμ, ho, hb, h1, h2, q⟩
  unfold w_race
  rotate_left 901
  refine i_number hμ ho (by omega) (by omega) (by omega) fun z1 o1 z1a z1b ho1 => ?_
  rotate_left 901
  refine i_chance mset_same ho1 (by omega) (by omega) fun k o2 ho2 => ?_
  rw [mset_mset]
  cases k
  all_goals rotate_left 901
  · refine i_number mset_same ho2 (by omega) (by omega) (by omega) fun y1 o3 y1a y1b ho3 => ?_
    rw [mset_mset]
    rotate_left 901
    refine i_number mset_same ho3 (by omega) (by omega) (by omega) fun x1 o4 x1a x1b ho4 => ?_
    rw [mset_mset]
    rotate_left 901
    refine i_chance mset_same ho4 (by omega) (by omega) fun k2 o5 ho5 => ?_
    rw [mset_mset]
    cases k2
    · rotate_left 901
      · subst h
        exact q _ _ _ _ ⟨⟨by split <;> omega, by split <;> omega, by split <;> omega, by split <;> omega, by omega, by omega, by split <;> omega, by split <;> omega⟩, by first | omega | (split <;> omega), by first | omega | (split <;> omega), by first | omega | (split <;> omega)⟩ (ho5.mono (by omega))
      · exact q _ _ _ _ ⟨⟨by omega, by omega, by omega, by omega, by omega, by omega, by omega, by omega⟩, by first | omega | (split <;> omega), by first | omega | (split <;> omega), by first | omega | (split <;> omega)⟩ (ho5.mono (by omega))
    · rotate_left 901
      refine i_take mset_same ho5 (by omega) (by omega) fun y2 o6 y2a y2b ho6 => ?_
      rw [mset_mset]
      rotate_left 901
      refine i_pick mset_same ho6 (by omega) rfl (fun _ => rfl) (by decide : 9 < 1000000000) (by simp) fun d hd o7 ho7 => ?_
      rw [mset_mset]
      obtain ⟨n, rfl⟩ : ∃ n, d = D.int n := by
        simp only [List.mem_cons, List.not_mem_nil, or_false] at hd
        rcases hd with rfl | rfl | rfl | rfl | rfl | rfl | rfl | rfl | rfl <;> exact ⟨_, rfl⟩
      rotate_left 901
      all_goals generalize hu : (if y2 + n < hi then y2 + n else hi) = u
      all_goals have hu1 : u ≤ hi := by rw [← hu]; split <;> omega
      all_goals generalize hw : (if u > 0 then u else 0) = x2
      all_goals have hw1 : 0 ≤ x2 ∧ x2 ≤ hi := by rw [← hw]; split <;> omega
      · subst h
        exact q _ _ _ _ ⟨⟨by split <;> omega, by split <;> omega, by split <;> omega, by split <;> omega, by omega, by omega, by split <;> omega, by split <;> omega⟩, by first | omega | (split <;> omega), by first | omega | (split <;> omega), by first | omega | (split <;> omega)⟩ (ho7.mono (by omega))
      · exact q _ _ _ _ ⟨⟨by omega, by omega, by omega, by omega, by omega, by omega, by omega, by omega⟩, by first | omega | (split <;> omega), by first | omega | (split <;> omega), by first | omega | (split <;> omega)⟩ (ho7.mono (by omega))
  · refine i_take mset_same ho2 (by omega) (by split <;> omega) fun z2 o2' z2a z2b ho2' => ?_
    have z2c : z2 ≤ hi := by split at z2b <;> omega
    rw [mset_mset]
    rotate_left 901
    refine i_number mset_same ho2' (by omega) (by omega) (by omega) fun y1 o3 y1a y1b ho3 => ?_
    rw [mset_mset]
    rotate_left 901
    refine i_number mset_same ho3 (by omega) (by omega) (by omega) fun x1 o4 x1a x1b ho4 => ?_
    rw [mset_mset]
    rotate_left 901
    refine i_chance mset_same ho4 (by omega) (by omega) fun k2 o5 ho5 => ?_
    rw [mset_mset]
    cases k2
    · rotate_left 901
      · subst h
        exact q _ _ _ _ ⟨⟨by split <;> omega, by split <;> omega, by split <;> omega, by split <;> omega, by omega, by omega, by split <;> omega, by split <;> omega⟩, by first | omega | (split <;> omega), by first | omega | (split <;> omega), by first | omega | (split <;> omega)⟩ (ho5.mono (by omega))
      · exact q _ _ _ _ ⟨⟨by omega, by omega, by omega, by omega, by omega, by omega, by omega, by omega⟩, by first | omega | (split <;> omega), by first | omega | (split <;> omega), by first | omega | (split <;> omega)⟩ (ho5.mono (by omega))
    · rotate_left 901
      refine i_take mset_same ho5 (by omega) (by omega) fun y2 o6 y2a y2b ho6 => ?_
      rw [mset_mset]
      rotate_left 901
      refine i_pick mset_same ho6 (by omega) rfl (fun _ => rfl) (by decide : 9 < 1000000000) (by simp) fun d hd o7 ho7 => ?_
      rw [mset_mset]
      obtain ⟨n, rfl⟩ : ∃ n, d = D.int n := by
        simp only [List.mem_cons, List.not_mem_nil, or_false] at hd
        rcases hd with rfl | rfl | rfl | rfl | rfl | rfl | rfl | rfl | rfl <;> exact ⟨_, rfl⟩
      rotate_left 901
      all_goals generalize hu : (if y2 + n < hi then y2 + n else hi) = u
      all_goals have hu1 : u ≤ hi := by rw [← hu]; split <;> omega
      all_goals generalize hw : (if u > 0 then u else 0) = x2
      all_goals have hw1 : 0 ≤ x2 ∧ x2 ≤ hi := by rw [← hw]; split <;> omega
      · subst h
        exact q _ _ _ _ ⟨⟨by split <;> omega, by split <;> omega, by split <;> omega, by split <;> omega, by omega, by omega, by split <;> omega, by split <;> omega⟩, by first | omega | (split <;> omega), by first | omega | (split <;> omega), by first | omega | (split <;> omega)⟩ (ho7.mono (by omega))
      · exact q _ _ _ _ ⟨⟨by omega, by omega, by omega, by omega, by omega, by omega, by omega, by omega⟩, by first | omega | (split <;> omega), by first | omega | (split <;> omega), by first | omega | (split <;> omega)⟩ (ho7.mono (by omega))
end K74


set_option maxRecDepth 100000
set_option maxHeartbeats 4000000
local macro_rules | `(tactic| rotate_left 35098) => `(tactic| (repeat' (first | (with_reducible refine Step.go ?_) | (with_reducible refine i_var (by with_unfolding_all apply Eq.refl) ?_) | (with_reducible refine i_rt ?_) | (with_reducible refine Fork.go (fun h => ?_) (fun h => ?_)) | (with_reducible refine i_ixS (by with_reducible first | assumption | apply mset_same) (by with_unfolding_all apply Eq.refl) ?_) | (with_reducible refine i_ixF (by with_unfolding_all apply Eq.refl) ?_) | (with_reducible refine i_ixT (by with_unfolding_all apply Eq.refl) ?_) | (with_reducible refine i_xfv (by with_unfolding_all apply Eq.refl) ?_) | (with_reducible refine i_isv (by with_unfolding_all apply Eq.refl) ?_) | (with_reducible refine i_isvL (by with_reducible first | assumption | apply mset_same) ?_) | (with_reducible refine i_Tv (by with_unfolding_all apply Eq.refl) ?_) | (with_reducible refine i_Fv (by with_unfolding_all apply Eq.refl) ?_) | (with_reducible refine i_lcC (by first | apply True.intro | with_unfolding_all apply Eq.refl) ?_) | (with_reducible refine i_lcN (by first | apply True.intro | with_unfolding_all apply Eq.refl) ?_) | (with_reducible refine i_forC (by first | apply True.intro | with_unfolding_all apply Eq.refl) ?_) | (with_reducible refine i_forN (by first | apply True.intro | with_unfolding_all apply Eq.refl) ?_) | (with_reducible refine i_sz2 (by with_unfolding_all apply Eq.refl) ?_) | (with_reducible refine i_size (by with_unfolding_all apply Eq.refl) ?_) | (with_reducible refine i_gT (by with_unfolding_all apply Eq.refl) ?_) | (with_reducible refine i_powC (by decide) (by decide) (by decide) ?_) | (with_reducible refine i_setL (by with_reducible first | assumption | apply mset_same) (by with_unfolding_all apply Eq.refl) ?_) | (with_reducible refine i_lenS (by with_reducible first | assumption | apply mset_same) ?_))))
local macro_rules | `(tactic| rotate_left 79961) => `(tactic| (repeat' (first | (with_reducible refine Step.go ?_) | (with_reducible refine i_var (by with_unfolding_all apply Eq.refl) ?_) | (with_reducible refine i_seq ?_) | (with_reducible refine i_rt ?_) | (with_reducible refine Fork.go (fun h => ?_) (fun h => ?_)) | (with_reducible refine i_ixS (by with_reducible first | assumption | apply mset_same) (by with_unfolding_all apply Eq.refl) ?_) | (with_reducible refine i_ixF (by with_unfolding_all apply Eq.refl) ?_) | (with_reducible refine i_ixT (by with_unfolding_all apply Eq.refl) ?_) | (with_reducible refine i_xfv (by with_unfolding_all apply Eq.refl) ?_) | (with_reducible refine i_isv (by with_unfolding_all apply Eq.refl) ?_) | (with_reducible refine i_isvL (by with_reducible first | assumption | apply mset_same) ?_) | (with_reducible refine i_Tv (by with_unfolding_all apply Eq.refl) ?_) | (with_reducible refine i_Fv (by with_unfolding_all apply Eq.refl) ?_) | (with_reducible refine i_lcC (by first | apply True.intro | with_unfolding_all apply Eq.refl) ?_) | (with_reducible refine i_lcN (by first | apply True.intro | with_unfolding_all apply Eq.refl) ?_) | (with_reducible refine i_forC (by first | apply True.intro | with_unfolding_all apply Eq.refl) ?_) | (with_reducible refine i_forN (by first | apply True.intro | with_unfolding_all apply Eq.refl) ?_) | (with_reducible refine i_sz2 (by with_unfolding_all apply Eq.refl) ?_) | (with_reducible refine i_size (by with_unfolding_all apply Eq.refl) ?_) | (with_reducible refine i_gT (by with_unfolding_all apply Eq.refl) ?_) | (with_reducible refine i_powC (by decide) (by decide) (by decide) ?_) | (with_reducible refine i_lenS (by with_reducible first | assumption | apply mset_same) ?_))))
namespace K74
open PySem PySem.Spec PyProof.Rows L2 T2
theorem i_race {a : Addr} {o : MO} {b hi : Int} {μ : Mu} {Q : PQ} {E : PX} (hμ : μ a = some o) (ho : StO b o) (hb : b < 10000000000000000) (h1 : 1 ≤ hi) (h2 : hi ≤ 1000000) (q : ∀ x y z o', Valid x y z → StO (b + 12) o' → Q (rw3 x y z) (mset μ a o')) :
    [D.raw a, D.int hi].length = 2 ∧ sp_race [.raw a, .int hi] μ Q E := ⟨rfl, a, o, b, hi, rfl, hμ, ho, hb, h1, h2, fun x y z o' v => q x y z o' v.1⟩
theorem i_raceH {a : Addr} {o : MO} {b hi : Int} {μ : Mu} {Q : PQ} {E : PX} (hμ : μ a = some o) (ho : StO b o) (hb : b < 10000000000000000) (h1 : 1 ≤ hi) (h2 : hi ≤ 1000000) (q : ∀ x y z o', (Valid x y z ∧ x ≤ hi ∧ y ≤ hi ∧ z ≤ hi) → StO (b + 12) o' → Q (rw3 x y z) (mset μ a o')) :
    [D.raw a, D.int hi].length = 2 ∧ sp_race [.raw a, .int hi] μ Q E := ⟨rfl, a, o, b, hi, rfl, hμ, ho, hb, h1, h2, q⟩
theorem BadN.sc {lo hi : Int} {d : D} (h : BadN lo hi d) : Sc d := by
  rcases h with h | h | ⟨i, h, _⟩
  · exact .inr (.inl h)
  · exact .inr (.inr h)
  · exact .inl ⟨i, h⟩
/-! _law_bad_race -/
def N_bad_race : List Str := ["_law_store_here", "_law_high", "_law_numbers", "_law_kind"]
def P_bad_race : List Str := ["_law_store_here", "_law_high"]
abbrev w_bad_race_p0 : WS := (wSeq (wIfS (wOrT (wTB (wOp gGt (wVar 3) (wC (.int 2)))) (wAndT (wTB (wOp gEq (wVar 3) (wC (.int 2)))) (wTru (wCall 2 sp_chance (wCons (wVar 0) (wCons (wC (.int 3)) wNil)))))) (wSet gSet (wVar 2) (wCall 2 sp_take (wCons (wVar 0) (wCons (wC (.int 3)) wNil))) (wCall 3 sp_bad_number (wCons (wVar 0) (wCons (wC (.int 0)) (wCons (wVar 1) wNil))))) wNext)
  (wSeq (wIfS (wTB (wOp gEq (wVar 3) (wC (.int 5)))) (wSet gSet (wVar 2) (wCall 2 sp_take (wCons (wVar 0) (wCons (wC (.int 3)) wNil))) (wCall 3 sp_bad_number (wCons (wVar 0) (wCons (wC (.int 0)) (wCons (wVar 1) wNil))))) wNext)
  (wRet (wCB gTuple (wCons (wVar 2) wNil)))))
abbrev w_bad_race_p1 : WS := (wSeq (wAsg 3 (wCall 2 sp_take (wCons (wVar 0) (wCons (wC (.int 6)) wNil))))
  (wSeq (wIfS (wOrT (wTB (wOp gEq (wVar 3) (wC (.int 0)))) (wTB (wOp gEq (wVar 3) (wC (.int 2))))) (wSeq (wSet gSet (wVar 2) (wC (.int 0)) (wC (.int 0)))
    (wSet gSet (wVar 2) (wC (.int 2)) (wC (.int 0)))) wNext)
  (wSeq (wIfS (wOrT (wTB (wOp gEq (wVar 3) (wC (.int 1)))) (wTB (wOp gEq (wVar 3) (wC (.int 2))))) (wSeq (wSet gSet (wVar 2) (wC (.int 1)) (wC (.int 0)))
    (wSet gSet (wVar 2) (wC (.int 2)) (wC (.int 0)))) wNext)
  w_bad_race_p0)))
def w_bad_race  : WS := (wSeq (wAsg 2 (wCB gListM (wCons (wCall 2 sp_race (wCons (wVar 0) (wCons (wVar 1) wNil))) wNil)))
  w_bad_race_p1)
def G_bad_race : Gam := ⟨[⟨"_law_take", 2, [], false, sp_take⟩, ⟨"_law_bad_number", 3, [], false, sp_bad_number⟩, ⟨"_law_chance", 2, [], false, sp_chance⟩, ⟨"_law_race", 2, [], false, sp_race⟩], [], [], [], []⟩
def sp_bad_race : SpD := fun ds μ Q _ => ∃ (a : Addr) (o : MO) (b hi : Int), ds = [.raw a, .int hi] ∧ μ a = some o ∧ StO b o ∧ b < 1000000000000000 ∧ 1 ≤ hi ∧ hi ≤ 1000000 ∧ ∀ x y z o', Sc x → Sc y → Sc z → StO (b + 30) o' → Q (.tup [x, y, z]) (mset μ a o')
/-- the state within -/
def JB (μ : Mu) (a n : Addr) (hi r b : Int) (ρ : T2.Env) (μ' : Mu) : Prop := ρ = [some (.raw a), some (.int hi), some (.raw n), some (.int r)] ∧ ∃ o x y z, Two μ a n μ' o (.lst [x, y, z]) ∧ Sc x ∧ Sc y ∧ Sc z ∧ StO b o
theorem JB.mono {μ : Mu} {a n : Addr} {hi r b b' : Int} {ρ : T2.Env} {μ' : Mu} (h : JB μ a n hi r b ρ μ') (l : b ≤ b') : JB μ a n hi r b' ρ μ' := by
  obtain ⟨h1, o, x, y, z, T, hx, hy, hz, ho⟩ := h
  exact ⟨h1, o, x, y, z, T, hx, hy, hz, ho.mono l⟩
theorem sc0 : Sc (.int 0) := .inl ⟨0, rfl⟩
theorem pf_bad_race : ∀ ds μ Q E, sp_bad_race ds μ Q E → w_bad_race (endK Q E) (startD N_bad_race ds) μ := by
  rintro ds μ Q E ⟨a, o, b, hi, rfl, hμ, ho, hb, h1, h2, q⟩
  unfold w_bad_race
  rotate_left 901
  refine i_race hμ ho (by omega) h1 h2 fun x y z o1 v ho1 => ?_
  rotate_left 901
  refine i_listM rfl fun n hn => ?_
  have T := Two.new (o2 := .lst [.int x, .int y, .int z]) hμ hn
  generalize mset (mset μ a o1) n (.lst [.int x, .int y, .int z]) = μ1 at T ⊢
  with_reducible refine i_seq ?_
  rotate_left 35098
  refine i_take T.h1 ho1 (by omega) (by decide) fun r o2 r0 r1 ho2 => ?_
  have T := T.a o2
  generalize mset μ1 a o2 = μ2 at T ⊢
  rotate_left 35098
  have set2 : ∀ (b1 : Int) (ρ : T2.Env) (μ' : Mu) (c : Nat) (w : WS) (k : KS), True := fun _ _ _ _ _ _ => trivial
  with_reducible refine i_cut (JB μ a n hi r (b + 13)) (fun ρ' μ' hJ => ?_) fun nx hnx => ?_
  · with_reducible refine i_cut (JB μ a n hi r (b + 13)) (fun ρ' μ' hJ => ?_) fun nx hnx => ?_
    · with_reducible refine i_cut (JB μ a n hi r (b + 20)) (fun ρ' μ' hJ => ?_) fun nx hnx => ?_
      · with_reducible refine i_cut (JB μ a n hi r (b + 27)) (fun ρ' μ' hJ => ?_) fun nx hnx => ?_
        · obtain ⟨rfl, o3, x3, y3, z3, T, hx, hy, hz, ho3⟩ := hJ
          rotate_left 902
          refine i_tuple (getS_raw T.h2) ?_
          rotate_left 902
          exact i_back T.less (q _ _ _ _ hx hy hz (ho3.mono (by omega)))
        · obtain ⟨rfl, o3, x3, y3, z3, T, hx, hy, hz, ho3⟩ := hJ
          rotate_left 901
          · refine i_bad_number T.h1 ho3 (by omega) (by decide) (by omega) fun d o4 hd ho4 => ?_
            have T := T.a o4
            generalize mset μ' a o4 = μ4 at T ⊢
            rotate_left 901
            refine i_take T.h1 ho4 (by omega) (by decide) fun j o5 j0 j1 ho5 => ?_
            have T := T.a o5
            generalize mset μ4 a o5 = μ5 at T ⊢
            have hd := BadN.sc hd
            obtain rfl | rfl | rfl : j = 0 ∨ j = 1 ∨ j = 2 := by omega
            · exact i_setT (j := 0) T rfl fun μ6 T => hnx _ _ ⟨rfl, _, _, _, _, T, hd, hy, hz, ho5.mono (by omega)⟩
            · exact i_setT (j := 1) T rfl fun μ6 T => hnx _ _ ⟨rfl, _, _, _, _, T, hx, hd, hz, ho5.mono (by omega)⟩
            · exact i_setT (j := 2) T rfl fun μ6 T => hnx _ _ ⟨rfl, _, _, _, _, T, hx, hy, hd, ho5.mono (by omega)⟩
          · exact hnx _ _ ⟨rfl, _, _, _, _, T, hx, hy, hz, ho3.mono (by omega)⟩
      · obtain ⟨rfl, o3, x3, y3, z3, T, hx, hy, hz, ho3⟩ := hJ
        rotate_left 901
        · refine i_bad_number T.h1 ho3 (by omega) (by decide) (by omega) fun d o4 hd ho4 => ?_
          have T := T.a o4
          generalize mset μ' a o4 = μ4 at T ⊢
          rotate_left 901
          refine i_take T.h1 ho4 (by omega) (by decide) fun j o5 j0 j1 ho5 => ?_
          have T := T.a o5
          generalize mset μ4 a o5 = μ5 at T ⊢
          have hd := BadN.sc hd
          obtain rfl | rfl | rfl : j = 0 ∨ j = 1 ∨ j = 2 := by omega
          · exact i_setT (j := 0) T rfl fun μ6 T => hnx _ _ ⟨rfl, _, _, _, _, T, hd, hy, hz, ho5.mono (by omega)⟩
          · exact i_setT (j := 1) T rfl fun μ6 T => hnx _ _ ⟨rfl, _, _, _, _, T, hx, hd, hz, ho5.mono (by omega)⟩
          · exact i_setT (j := 2) T rfl fun μ6 T => hnx _ _ ⟨rfl, _, _, _, _, T, hx, hy, hd, ho5.mono (by omega)⟩
        · refine i_chance T.h1 ho3 (by omega) (by decide) fun k o4' ho4' => ?_
          have T := T.a o4'
          generalize mset μ' a o4' = μ4' at T ⊢
          cases k
          · rotate_left 901
            exact hnx _ _ ⟨rfl, _, _, _, _, T, hx, hy, hz, ho4'.mono (by omega)⟩
          · rotate_left 901
            refine i_bad_number T.h1 ho4' (by omega) (by decide) (by omega) fun d o4 hd ho4 => ?_
            have T := T.a o4
            generalize mset μ4' a o4 = μ4 at T ⊢
            rotate_left 901
            refine i_take T.h1 ho4 (by omega) (by decide) fun j o5 j0 j1 ho5 => ?_
            have T := T.a o5
            generalize mset μ4 a o5 = μ5 at T ⊢
            have hd := BadN.sc hd
            obtain rfl | rfl | rfl : j = 0 ∨ j = 1 ∨ j = 2 := by omega
            · exact i_setT (j := 0) T rfl fun μ6 T => hnx _ _ ⟨rfl, _, _, _, _, T, hd, hy, hz, ho5.mono (by omega)⟩
            · exact i_setT (j := 1) T rfl fun μ6 T => hnx _ _ ⟨rfl, _, _, _, _, T, hx, hd, hz, ho5.mono (by omega)⟩
            · exact i_setT (j := 2) T rfl fun μ6 T => hnx _ _ ⟨rfl, _, _, _, _, T, hx, hy, hd, ho5.mono (by omega)⟩
        · exact hnx _ _ ⟨rfl, _, _, _, _, T, hx, hy, hz, ho3.mono (by omega)⟩
    · obtain ⟨rfl, o3, x3, y3, z3, T, hx, hy, hz, ho3⟩ := hJ
      rotate_left 79961
      all_goals first
        | exact hnx _ _ ⟨rfl, _, _, _, _, T, hx, hy, hz, ho3⟩
        | (refine i_setT (j := 1) T rfl fun μ4 T => ?_
           rotate_left 79961
           exact i_setT (j := 2) T rfl fun μ5 T => hnx _ _ ⟨rfl, _, _, _, _, T, hx, sc0, sc0, ho3⟩)
  · rotate_left 79961
    all_goals first
      | exact hnx _ _ ⟨rfl, _, _, _, _, T, .inl ⟨_, rfl⟩, .inl ⟨_, rfl⟩, .inl ⟨_, rfl⟩, ho2.mono (by omega)⟩
      | (refine i_setT (j := 0) T rfl fun μ4 T => ?_
         rotate_left 79961
         exact i_setT (j := 2) T rfl fun μ5 T => hnx _ _ ⟨rfl, _, _, _, _, T, sc0, .inl ⟨_, rfl⟩, sc0, ho2.mono (by omega)⟩)
end K74


set_option maxRecDepth 100000
set_option maxHeartbeats 4000000
local macro_rules | `(tactic| rotate_left 903) => `(tactic| (repeat' (first | (with_reducible refine Step.go ?_) | (with_reducible refine i_var (by with_unfolding_all apply Eq.refl) ?_) | (with_reducible refine i_seq ?_) | (with_reducible refine i_rt ?_) | (with_reducible refine i_Tv (by decide +kernel) ?_) | (with_reducible refine i_Fv (by decide +kernel) ?_) | (with_reducible refine Fork.go (fun h => ?_) (fun h => ?_)) | (with_reducible refine i_ixS (by with_reducible first | assumption | apply mset_same) (by with_unfolding_all apply Eq.refl) ?_) | (with_reducible refine i_ixF (by with_unfolding_all apply Eq.refl) ?_) | (with_reducible refine i_ixT (by with_unfolding_all apply Eq.refl) ?_) | (with_reducible refine i_xfv (by with_unfolding_all apply Eq.refl) ?_) | (with_reducible refine i_isv (by with_unfolding_all apply Eq.refl) ?_) | (with_reducible refine i_isvL (by with_reducible first | assumption | apply mset_same) ?_) | (with_reducible refine i_Tv (by with_unfolding_all apply Eq.refl) ?_) | (with_reducible refine i_Fv (by with_unfolding_all apply Eq.refl) ?_) | (with_reducible refine i_lcC (by first | apply True.intro | with_unfolding_all apply Eq.refl) ?_) | (with_reducible refine i_lcN (by first | apply True.intro | with_unfolding_all apply Eq.refl) ?_) | (with_reducible refine i_forC (by first | apply True.intro | with_unfolding_all apply Eq.refl) ?_) | (with_reducible refine i_forN (by first | apply True.intro | with_unfolding_all apply Eq.refl) ?_) | (with_reducible refine i_sz2 (by with_unfolding_all apply Eq.refl) ?_) | (with_reducible refine i_size (by with_unfolding_all apply Eq.refl) ?_) | (with_reducible refine i_gT (by with_unfolding_all apply Eq.refl) ?_) | (with_reducible refine i_powC (by decide) (by decide) (by decide) ?_) | (with_reducible refine i_setL (by with_reducible first | assumption | apply mset_same) (by with_unfolding_all apply Eq.refl) ?_) | (with_reducible refine i_lenS (by with_reducible first | assumption | apply mset_same) ?_))))
namespace K73
open PySem PySem.Spec PyProof.Rows L2 T2 K74
theorem opn_eq {x y z : Int} (v : Valid x y z) : opn x y z = (if 1 ≤ y then [Wo.fill] else []) ++ (if 1 ≤ z ∧ (y + z = 1 ∨ 2 ≤ x + z) then [Wo.share] else []) ++ (if 1 ≤ x ∧ 2 ≤ x + z then [Wo.own] else []) ++ [Wo.pass] := by
  unfold Valid at v
  have h1 : opB x y z .fill = decide (1 ≤ y) := by
    unfold opB
    by_cases h : 1 ≤ y
    · rw [decide_eq_true h]; exact decide_eq_true (by simp [dec, F0]; omega)
    · rw [decide_eq_false h]; exact decide_eq_false (by simp [dec, F0]; omega)
  have h2 : opB x y z .share = decide (1 ≤ z ∧ (y + z = 1 ∨ 2 ≤ x + z)) := by
    unfold opB
    by_cases h : 1 ≤ z ∧ (y + z = 1 ∨ 2 ≤ x + z)
    · rw [decide_eq_true h]; exact decide_eq_true (by simp [dec, F0]; omega)
    · rw [decide_eq_false h]; exact decide_eq_false (by simp [dec, F0]; omega)
  have h3 : opB x y z .own = decide (1 ≤ x ∧ 2 ≤ x + z) := by
    unfold opB
    by_cases h : 1 ≤ x ∧ 2 ≤ x + z
    · rw [decide_eq_true h]; exact decide_eq_true (by simp [dec, F0]; omega)
    · rw [decide_eq_false h]; exact decide_eq_false (by simp [dec, F0]; omega)
  have h4 : opB x y z .pass = true := decide_eq_true (by simp [dec, F0]; omega)
  unfold opn four
  simp only [List.filter_cons, List.filter_nil, h1, h2, h3, h4, decide_eq_true_eq]
  split <;> split <;> split <;> rfl
/-! deeds_here -/
def N_m_deeds_here : List Str := ["own", "other", "shared", "deeds"]
def P_m_deeds_here : List Str := ["own", "other", "shared"]
abbrev w_m_deeds_here_p0 : WS := (wSeq (wIfS (wAndT (wTB (wOp gGe (wVar 2) (wC (.int 1)))) (wOrT (wTB (wOp gEq (wOp gAdd (wVar 1) (wVar 2)) (wC (.int 1)))) (wTB (wOp gGe (wOp gAdd (wVar 0) (wVar 2)) (wC (.int 2)))))) (wDrop (wMt "list" gAppend (wVar 3) (wCons (wC (.str "share")) wNil))) wNext)
  (wSeq (wIfS (wAndT (wTB (wOp gGe (wVar 0) (wC (.int 1)))) (wTB (wOp gGe (wOp gAdd (wVar 0) (wVar 2)) (wC (.int 2))))) (wDrop (wMt "list" gAppend (wVar 3) (wCons (wC (.str "own")) wNil))) wNext)
  (wSeq (wDrop (wMt "list" gAppend (wVar 3) (wCons (wC (.str "pass")) wNil)))
  (wRet (wVar 3)))))
def w_m_deeds_here  : WS := (wSeq (wAsg 3 (wLstM wNil))
  (wSeq (wIfS (wTB (wOp gGe (wVar 1) (wC (.int 1)))) (wDrop (wMt "list" gAppend (wVar 3) (wCons (wC (.str "fill")) wNil))) wNext)
  w_m_deeds_here_p0))
def G_m_deeds_here : Gam := ⟨[], [("STAY", (.str "pass")), ("OWN", (.str "own")), ("SHARE", (.str "share")), ("FILL", (.str "fill"))], [], [], []⟩
def sp_m_deeds_here : SpD := fun ds μ Q _ => ∃ x y z : Int, ds = [.int x, .int y, .int z] ∧ Valid x y z ∧ ∀ a, μ a = none → Q (.raw a) (mset μ a (.lst ((opn x y z).map fun w => .str w.s)))
theorem i_app {a : Addr} {ds : List D} {d : D} {μ : Mu} {Q : PQ} (h : μ a = some (.lst ds)) (hl : ds.length < sizeLine) (q : Q .non (mset μ a (.lst (ds ++ [d])))) : gAppend (.raw a) [d] μ Q := ⟨a, ds, d, rfl, rfl, h, hl, q⟩
theorem pf_m_deeds_here : ∀ ds μ Q E, sp_m_deeds_here ds μ Q E → w_m_deeds_here (endK Q E) (startD N_m_deeds_here ds) μ := by
  rintro ds μ Q E ⟨x, y, z, rfl, v, q⟩
  rw [opn_eq v] at q
  unfold w_m_deeds_here
  rotate_left 35098
  with_reducible refine i_seq ?_
  rotate_left 35098
  intro a ha
  with_reducible refine i_cut (fun ρ' μ' => ρ' = [some (.int x), some (.int y), some (.int z), some (.raw a)] ∧ μ' = mset μ a (.lst ((if 1 ≤ y then [Wo.fill] else []).map fun w => .str w.s))) (fun ρ' μ' hJ => ?_) fun nx hnx => ?_
  · obtain ⟨rfl, rfl⟩ := hJ
    generalize hL1 : (if 1 ≤ y then [Wo.fill] else []) = L1 at q ⊢
    have hl1 : L1.length ≤ 1 := by rw [← hL1]; split <;> decide
    with_reducible refine i_cut (fun ρ' μ' => ρ' = [some (.int x), some (.int y), some (.int z), some (.raw a)] ∧ μ' = mset μ a (.lst ((L1 ++ (if 1 ≤ z ∧ (y + z = 1 ∨ 2 ≤ x + z) then [Wo.share] else [])).map fun w => .str w.s))) (fun ρ' μ' hJ => ?_) fun nx hnx => ?_
    · obtain ⟨rfl, rfl⟩ := hJ
      generalize hL2 : L1 ++ (if 1 ≤ z ∧ (y + z = 1 ∨ 2 ≤ x + z) then [Wo.share] else []) = L2 at q ⊢
      have hl2 : L2.length ≤ 2 := by rw [← hL2, List.length_append]; split <;> simp <;> omega
      with_reducible refine i_cut (fun ρ' μ' => ρ' = [some (.int x), some (.int y), some (.int z), some (.raw a)] ∧ μ' = mset μ a (.lst ((L2 ++ (if 1 ≤ x ∧ 2 ≤ x + z then [Wo.own] else [])).map fun w => .str w.s))) (fun ρ' μ' hJ => ?_) fun nx hnx => ?_
      · obtain ⟨rfl, rfl⟩ := hJ
        generalize hL3 : L2 ++ (if 1 ≤ x ∧ 2 ≤ x + z then [Wo.own] else []) = L3 at q ⊢
        have hl3 : L3.length ≤ 3 := by rw [← hL3, List.length_append]; split <;> simp <;> omega
        rotate_left 901
        refine ⟨tymL mset_same, ?_⟩
        rotate_left 901
        refine i_app mset_same (by rw [List.length_map]; exact Nat.lt_of_le_of_lt hl3 (by decide)) ?_
        rw [mset_mset]
        rotate_left 901
        have := q a ha
        rw [List.map_append] at this
        exact this
      · rotate_left 901
        all_goals first
          | (refine ⟨tymL mset_same, ?_⟩
             rotate_left 901
             refine i_app mset_same (by rw [List.length_map]; exact Nat.lt_of_le_of_lt hl2 (by decide)) ?_
             rw [mset_mset]
             rotate_left 901
             exact hnx _ _ ⟨rfl, by rw [if_pos (by omega), List.map_append]; rfl⟩)
          | exact hnx _ _ ⟨rfl, by rw [if_neg (by omega), List.append_nil]⟩
    · rotate_left 901
      all_goals first
        | (refine ⟨tymL mset_same, ?_⟩
           rotate_left 901
           refine i_app mset_same (by rw [List.length_map]; exact Nat.lt_of_le_of_lt hl1 (by decide)) ?_
           rw [mset_mset]
           rotate_left 901
           exact hnx _ _ ⟨rfl, by rw [if_pos (by omega), List.map_append]; rfl⟩)
        | exact hnx _ _ ⟨rfl, by rw [if_neg (by omega), List.append_nil]⟩
  · rotate_left 901
    all_goals first
      | (refine ⟨tymL mset_same, ?_⟩
         rotate_left 901
         refine i_app mset_same (by decide) ?_
         rw [mset_mset]
         rotate_left 901
         exact hnx _ _ ⟨rfl, by rw [if_pos (by omega)]; rfl⟩)
      | exact hnx _ _ ⟨rfl, by rw [if_neg (by omega)]; rfl⟩
/-! race_step -/
def N_m_race_step : List Str := ["own", "other", "shared", "deed"]
def P_m_race_step : List Str := ["own", "other", "shared", "deed"]
def w_m_race_step  : WS := (wSeq (wIfS (wTB (wOp gEq (wVar 3) (wC (.str "fill")))) (wAsg 1 (wOp gSub (wVar 1) (wC (.int 1)))) (wIfS (wTB (wOp gEq (wVar 3) (wC (.str "share")))) (wAsg 2 (wOp gSub (wVar 2) (wC (.int 1)))) (wIfS (wTB (wOp gEq (wVar 3) (wC (.str "own")))) (wAsg 0 (wOp gSub (wVar 0) (wC (.int 1)))) wNext)))
  (wSeq (wIfS (wTB (wOp gEq (wOp gAdd (wVar 1) (wVar 2)) (wC (.int 0)))) (wRet (wC .non)) wNext)
  (wRet (wTup (wCons (wVar 1) (wCons (wVar 0) (wCons (wVar 2) wNil)))))))
def G_m_race_step : Gam := ⟨[], [("FILL", (.str "fill")), ("SHARE", (.str "share")), ("OWN", (.str "own"))], [], [], []⟩
def sp_m_race_step : SpD := fun ds μ Q _ => ∃ x y z w, ds = [.int x, .int y, .int z, .str (Wo.s w)] ∧ (dec (F0 x y z 0) w .fill + dec (F0 x y z 0) w .share = 0 → Q .non μ) ∧
  (dec (F0 x y z 0) w .fill + dec (F0 x y z 0) w .share ≠ 0 → Q (.tup [.int (dec (F0 x y z 0) w .fill), .int (dec (F0 x y z 0) w .own), .int (dec (F0 x y z 0) w .share)]) μ)
theorem Wo.so {w : Wo} : (w.s = ("own" : Str)) ↔ w = .own := ⟨fun h => Wo.inj (v := .own) h, fun h => by rw [h]; rfl⟩
theorem pf_m_race_step : ∀ ds μ Q E, sp_m_race_step ds μ Q E → w_m_race_step (endK Q E) (startD N_m_race_step ds) μ := by
  rintro ds μ Q E ⟨x, y, z, w, rfl, q1, q2⟩
  unfold w_m_race_step
  cases w
  all_goals simp only [Wo.s] at *
  all_goals rotate_left 903
  all_goals first
    | exact q1 (by simp [dec, F0]; omega)
    | exact q2 (by simp [dec, F0]; omega)
end K73


set_option maxRecDepth 100000
set_option maxHeartbeats 4000000
namespace K73
open PySem PySem.Spec PyProof.Rows L2 T2 K74
theorem i_deeds {x y z : Int} {μ : Mu} {Q : PQ} {E : PX} (v : Valid x y z) (q : ∀ a, μ a = none → Q (.raw a) (mset μ a (.lst ((opn x y z).map fun w => .str w.s)))) : [D.int x, D.int y, D.int z].length = 3 ∧ sp_m_deeds_here [.int x, .int y, .int z] μ Q E := ⟨rfl, x, y, z, rfl, v, q⟩
theorem valid_due {x y z : D} (h : due 1000000 x y z = none) : ∃ i j k, x = .int i ∧ y = .int j ∧ z = .int k ∧ Valid i j k := by
  obtain ⟨i, j, k, rfl, rfl, rfl, g⟩ := due_none h
  exact ⟨i, j, k, rfl, rfl, rfl, g⟩
/-! race_deeds -/
def N_m_race_deeds : List Str := ["own", "other", "shared"]
def P_m_race_deeds : List Str := ["own", "other", "shared"]
def w_m_race_deeds  : WS := (wSeq (wDrop (wCall 4 sp_m_check_race (wCons (wVar 0) (wCons (wVar 1) (wCons (wVar 2) (wCons (wC (.int 1000000)) wNil))))))
  (wRet (wCall 3 sp_m_deeds_here (wCons (wVar 0) (wCons (wVar 1) (wCons (wVar 2) wNil))))))
def G_m_race_deeds : Gam := ⟨[⟨"deeds_here", 3, [], true, sp_m_deeds_here⟩, ⟨"check_race", 4, [], false, sp_m_check_race⟩], [("MOST_RACE", (.int 1000000))], [], [], []⟩
def sp_m_race_deeds : SpD := fun ds μ Q E => ∃ x y z, ds = [x, y, z] ∧ Sc x ∧ Sc y ∧ Sc z ∧ outc (due 1000000 x y z) (∀ i j k a, x = .int i → y = .int j → z = .int k → μ a = none → Q (.raw a) (mset μ a (.lst ((opn i j k).map fun w => .str w.s)))) E μ
theorem pf_m_race_deeds : ∀ ds μ Q E, sp_m_race_deeds ds μ Q E → w_m_race_deeds (endK Q E) (startD N_m_race_deeds ds) μ := by
  rintro ds μ Q E ⟨x, y, z, rfl, hx, hy, hz, q1, q2⟩
  unfold w_m_race_deeds
  rotate_left 901
  refine ⟨rfl, x, y, z, _, rfl, hx, hy, hz, fun h => ?_, q2⟩
  obtain ⟨i, j, k, rfl, rfl, rfl, v⟩ := valid_due h
  rotate_left 901
  refine i_deeds v fun a ha => ?_
  rotate_left 901
  exact q1 h i j k a rfl rfl rfl ha
/-- is the text one of the words -/
def opT (x y z : Int) (d : Str) : Bool := (opn x y z).any fun w => decide (w.s = d)
theorem in_opn {x y z : Int} {d : Str} : (((opn x y z).map fun w => D.str w.s).any fun e => eqS e (.str d)) = opT x y z d := by
  unfold opT
  rw [List.any_map]
  congr 1
  try (funext w; exact eqS_str)
theorem flat_opn {x y z : Int} : ((opn x y z).map fun w => D.str w.s).all flat = true := by
  rw [List.all_eq_true]
  intro d hd
  obtain ⟨v, _, rfl⟩ := List.mem_map.mp hd
  rfl
/-! race_after -/
def N_m_race_after : List Str := ["own", "other", "shared", "deed"]
def P_m_race_after : List Str := ["own", "other", "shared", "deed"]
def w_m_race_after  : WS := (wSeq (wDrop (wCall 4 sp_m_check_race (wCons (wVar 0) (wCons (wVar 1) (wCons (wVar 2) (wCons (wC (.int 1000000)) wNil))))))
  (wSeq (wIfS (wTB (wOp (gIn true) (wVar 3) (wCall 3 sp_m_deeds_here (wCons (wVar 0) (wCons (wVar 1) (wCons (wVar 2) wNil)))))) (wRaise "NoEntry" ["entry"] (wCons (wVar 3) wNil)) wNext)
  (wRet (wCall 4 sp_m_race_step (wCons (wVar 0) (wCons (wVar 1) (wCons (wVar 2) (wCons (wVar 3) wNil))))))))
def G_m_race_after : Gam := ⟨[⟨"race_step", 4, [], false, sp_m_race_step⟩, ⟨"deeds_here", 3, [], true, sp_m_deeds_here⟩, ⟨"check_race", 4, [], false, sp_m_check_race⟩], [("MOST_RACE", (.int 1000000))], [("NoEntry", ["entry"])], [], []⟩
def sp_m_race_after : SpD := fun ds μ Q E => ∃ x y z d, ds = [x, y, z, .str d] ∧ Sc x ∧ Sc y ∧ Sc z ∧ (∀ w e, due 1000000 x y z = some (w, e) → E "BadNumber" (BadF w e) μ) ∧
  ∀ i j k, x = .int i → y = .int j → z = .int k → Valid i j k → (opT i j k d = false → ∀ μ', Less μ μ' → E "NoEntry" [("entry", .str d)] μ') ∧
    ∀ w, d = Wo.s w → opB i j k w = true → (dec (F0 i j k 0) w .fill + dec (F0 i j k 0) w .share = 0 → Q .non μ) ∧
      (dec (F0 i j k 0) w .fill + dec (F0 i j k 0) w .share ≠ 0 → Q (.tup [.int (dec (F0 i j k 0) w .fill), .int (dec (F0 i j k 0) w .own), .int (dec (F0 i j k 0) w .share)]) μ)
theorem pf_m_race_after : ∀ ds μ Q E, sp_m_race_after ds μ Q E → w_m_race_after (endK Q E) (startD N_m_race_after ds) μ := by
  rintro ds μ Q E ⟨x, y, z, d, rfl, hx, hy, hz, q2, q1⟩
  unfold w_m_race_after
  rotate_left 902
  refine ⟨rfl, x, y, z, _, rfl, hx, hy, hz, fun h => ?_, q2⟩
  obtain ⟨i, j, k, rfl, rfl, rfl, v⟩ := valid_due h
  obtain ⟨g1, g2⟩ := q1 i j k rfl rfl rfl v
  rotate_left 902
  refine i_deeds v fun a ha => ?_
  refine Or.inl ⟨_, getS_raw mset_same, rfl, flat_opn, ?_⟩
  rw [in_opn]
  cases ho : opT i j k d with
  | false =>
    rotate_left 902
    exact ⟨rfl, g1 ho _ (less_new ha)⟩
  | true =>
    rotate_left 902
    obtain ⟨w, hw, e⟩ := List.any_eq_true.mp ho
    have e := of_decide_eq_true e
    obtain ⟨g3, g4⟩ := g2 w e.symm (List.mem_filter.mp hw).2
    refine ⟨rfl, i, j, k, w, by rw [e], fun hn => ?_, fun hn => ?_⟩
    · exact i_back (less_new ha) (g3 hn)
    · exact i_back (less_new ha) (g4 hn)
end K73


set_option maxRecDepth 100000
set_option maxHeartbeats 4000000
namespace K73
open PySem PySem.Spec PyProof.Rows L2 T2 K74
/-! _law_deeds_told -/
def N_deeds_told : List Str := ["_law_numbers", "e"]
def P_deeds_told : List Str := ["_law_numbers"]
def w_deeds_told  : WS := (wTry isX_BadNumber 1 (wRet (wTup (wCons (wC (.str "gave")) (wCons (wCall 3 sp_m_race_deeds (wCons (wOp gIx (wVar 0) (wC (.int 0))) (wCons (wOp gIx (wVar 0) (wC (.int 1))) (wCons (wOp gIx (wVar 0) (wC (.int 2))) wNil)))) wNil)))) fun a ca dx => (wRet (wTup (wCons (wC (.str "BadNumber")) (wCons (wXf a ca dx "what" (wVar 1)) (wCons (wXf a ca dx "value" (wVar 1)) (wCons (wAnd (wXi a ca dx (isX_TworoomsError) (wVar 1)) (wNot (wXi a ca dx (isX_NoEntry) (wVar 1)))) wNil)))))))
def G_deeds_told : Gam := ⟨[⟨"race_deeds", 3, [], true, sp_m_race_deeds⟩], [], [], [("BadNumber", isX_BadNumber), ("NoEntry", isX_NoEntry), ("TworoomsError", isX_TworoomsError)], ["value", "what"]⟩
def sp_deeds_told : SpD := fun ds μ Q _ => ∃ x y z, ds = [.tup [x, y, z]] ∧ Sc x ∧ Sc y ∧ Sc z ∧ (∀ i j k a, x = .int i → y = .int j → z = .int k → due 1000000 x y z = none → μ a = none → Q (.tup [.str "gave", .raw a]) (mset μ a (.lst ((opn i j k).map fun w => .str w.s)))) ∧
  (∀ w d, due 1000000 x y z = some (w, d) → Q (.tup [.str "BadNumber", .str w, d, .bl true]) μ)
theorem pf_deeds_told : ∀ ds μ Q E, sp_deeds_told ds μ Q E → w_deeds_told (endK Q E) (startD N_deeds_told ds) μ := by
  rintro ds μ Q E ⟨x, y, z, rfl, hx, hy, hz, q1, q2⟩
  unfold w_deeds_told
  rotate_left 901
  refine ⟨rfl, x, y, z, rfl, hx, hy, hz, fun h i j k a e1 e2 e3 ha => ?_, fun w d h => ?_⟩
  · rotate_left 901
    exact q1 i j k a e1 e2 e3 h ha
  · rotate_left 901
    intro a ca dx
    rotate_left 901
    exact q2 w d h
/-! _law_after_told -/
def N_after_told : List Str := ["_law_numbers", "_law_deed", "e"]
def P_after_told : List Str := ["_law_numbers", "_law_deed"]
def w_after_told  : WS := (wTryM [(isX_BadNumber, 2, fun a ca dx => (wRet (wTup (wCons (wC (.str "BadNumber")) (wCons (wXf a ca dx "what" (wVar 2)) (wCons (wXf a ca dx "value" (wVar 2)) (wCons (wAnd (wXi a ca dx (isX_TworoomsError) (wVar 2)) (wNot (wXi a ca dx (isX_NoEntry) (wVar 2)))) wNil))))))), (isX_NoEntry, 2, fun a ca dx => (wRet (wTup (wCons (wC (.str "NoEntry")) (wCons (wXf a ca dx "entry" (wVar 2)) (wCons (wXi a ca dx (isX_TworoomsError) (wVar 2)) wNil))))))] (wRet (wTup (wCons (wC (.str "gave")) (wCons (wCall 4 sp_m_race_after (wCons (wOp gIx (wVar 0) (wC (.int 0))) (wCons (wOp gIx (wVar 0) (wC (.int 1))) (wCons (wOp gIx (wVar 0) (wC (.int 2))) (wCons (wVar 1) wNil))))) wNil)))))
def G_after_told : Gam := ⟨[⟨"race_after", 4, [], false, sp_m_race_after⟩], [], [], [("BadNumber", isX_BadNumber), ("NoEntry", isX_NoEntry), ("TworoomsError", isX_TworoomsError)], ["value", "what", "entry"]⟩
def sp_after_told : SpD := fun ds μ Q E => ∃ x y z d, ds = [.tup [x, y, z], .str d] ∧ Sc x ∧ Sc y ∧ Sc z ∧ (∀ w e, due 1000000 x y z = some (w, e) → Q (.tup [.str "BadNumber", .str w, e, .bl true]) μ) ∧
  ∀ i j k, x = .int i → y = .int j → z = .int k → Valid i j k → (opT i j k d = false → Q (.tup [.str "NoEntry", .str d, .bl true]) μ) ∧
    ∀ w, d = Wo.s w → opB i j k w = true → (dec (F0 i j k 0) w .fill + dec (F0 i j k 0) w .share = 0 → Q (.tup [.str "gave", .non]) μ) ∧
      (dec (F0 i j k 0) w .fill + dec (F0 i j k 0) w .share ≠ 0 → Q (.tup [.str "gave", .tup [.int (dec (F0 i j k 0) w .fill), .int (dec (F0 i j k 0) w .own), .int (dec (F0 i j k 0) w .share)]]) μ)
theorem pf_after_told : ∀ ds μ Q E, sp_after_told ds μ Q E → w_after_told (endK Q E) (startD N_after_told ds) μ := by
  rintro ds μ Q E ⟨x, y, z, d, rfl, hx, hy, hz, q2, q1⟩
  unfold w_after_told
  rotate_left 902
  refine ⟨rfl, x, y, z, d, rfl, hx, hy, hz, fun w e h => ?_, fun i j k e1 e2 e3 v => ?_⟩
  · rotate_left 902
    intro a ca dx
    rotate_left 901
    exact q2 w e h
  · obtain ⟨g1, g2⟩ := q1 i j k e1 e2 e3 v
    refine ⟨fun ho μ' hl => ?_, fun w hw hop => ?_⟩
    · rotate_left 902
      intro a ca dx
      rotate_left 902
      exact i_back hl (g1 ho)
    · obtain ⟨g3, g4⟩ := g2 w hw hop
      refine ⟨fun hn => ?_, fun hn => ?_⟩
      · rotate_left 901
        exact g3 hn
      · rotate_left 901
        exact g4 hn
end K73


set_option maxRecDepth 100000
set_option maxHeartbeats 4000000
namespace K73
open PySem PySem.Spec PyProof.Rows L2 T2 K74
theorem due_sc {hi : Int} {x y z d : D} {w : Str} (hx : Sc x) (hy : Sc y) (hz : Sc z) (h : due hi x y z = some (w, d)) : Sc d := by
  unfold due at h
  split at h
  · rename_i r h3
    cases h
    unfold due3 at h3
    split at h3
    · cases h3; exact hx
    · split at h3
      · cases h3; exact hy
      · split at h3
        · cases h3; exact hz
        · cases h3
  · unfold dueS at h
    split at h
    · split at h
      · cases h; exact hx
      · split at h
        · cases h; exact hy
        · cases h
    · cases h
theorem _root_.K74.Sc.sc4 {d : D} (h : Sc d) : sc4 d = true := by
  rcases h with ⟨i, rfl⟩ | ⟨b, rfl⟩ | rfl <;> rfl
theorem _root_.K74.Sc.same {d : D} (h : Sc d) : sameS d d = true := by
  rcases h with ⟨i, rfl⟩ | ⟨b, rfl⟩ | rfl
  · exact decide_eq_true rfl
  · exact decide_eq_true rfl
  · rfl
theorem rowsM_self {f : D → D → Option Bool} : ∀ {xs : List D}, (∀ d ∈ xs, f d d = some true) → rowsM f xs xs = some true
  | [], _ => rfl
  | x :: xs, h => by
    unfold rowsM
    rw [h x (List.mem_cons_self ..), rowsM_self fun d hd => h d (List.mem_cons_of_mem _ hd)]
    rfl
theorem rowsL_self {f : D → D → Option Bool} {xs : List D} (hl : xs.length < 1000000) (h : ∀ d ∈ xs, f d d = some true) : rowsL f xs xs = some true := by
  unfold rowsL
  rw [if_pos rfl, if_pos hl, rowsM_self h]
theorem rowsL_ok {f : D → D → Option Bool} {xs ys : List D} {b : Bool} (hl : xs.length = ys.length) (h2 : xs.length < 1000000) (h : rowsM f xs ys = some b) : rowsL f xs ys = some b := by
  unfold rowsL
  rw [if_pos hl, if_pos h2, h]
theorem sameM_sc {μ : Mu} {n : Nat} {d : D} (h : sc4 d = true) (h2 : sameS d d = true) : sameM μ n d d = some true := by
  cases n <;> (unfold sameM; rw [if_pos (by rw [h]; rfl), h2])
theorem sameS_str {s : Str} : sameS (.str s) (.str s) = true := decide_eq_true rfl
theorem sameM_str {μ : Mu} {n : Nat} {s : Str} : sameM μ n (.str s) (.str s) = some true := sameM_sc rfl sameS_str
theorem sameM_int {μ : Mu} {n : Nat} {s : Int} : sameM μ n (.int s) (.int s) = some true := sameM_sc rfl (decide_eq_true rfl)
theorem sameM_bl {μ : Mu} {n : Nat} {s : Bool} : sameM μ n (.bl s) (.bl s) = some true := sameM_sc rfl (decide_eq_true rfl)
theorem sameM_non {μ : Mu} {n : Nat} : sameM μ n .non .non = some true := sameM_sc rfl rfl
theorem sameM_Sc {μ : Mu} {n : Nat} {d : D} (h : Sc d) : sameM μ n d d = some true := sameM_sc h.sc4 h.same
theorem sameM_tup {μ : Mu} {n : Nat} {xs : List D} (hl : xs.length < 1000000) (h : ∀ d ∈ xs, sameM μ n d d = some true) : sameM μ (n + 1) (.tup xs) (.tup xs) = some true := by
  unfold sameM
  rw [if_neg (by simp [sc4])]
  show (if true = true then rowsL (sameM μ n) xs xs else some false) = some true
  rw [if_pos rfl, rowsL_self hl h]
theorem sameM_words {μ : Mu} {n : Nat} {a : Addr} {ws : List Wo} (hl : ws.length < 1000) (ha : μ a = some (.lst (ws.map fun w => .str w.s))) : sameM μ (n + 1 + 1) (.tup [.str "gave", .raw a]) (.tup [.str "gave", .lst (ws.map fun w => .str w.s)]) = some true := by
  have e : sameM μ (n + 1) (.raw a) (.lst (ws.map fun w => .str w.s)) = some true := by
    unfold sameM
    rw [if_neg (by simp [sc4])]
    have : seqK μ (.raw a) = some (false, ws.map fun w => .str w.s) := by simp only [seqK, ha]
    rw [this]
    show (if false = false then rowsL (sameM μ n) _ _ else some false) = some true
    rw [if_pos rfl]
    refine rowsL_self (by rw [List.length_map]; omega) fun d hd => ?_
    obtain ⟨w, _, rfl⟩ := List.mem_map.mp hd
    exact sameM_str
  show (if false = true then _ else if true = true then rowsL (sameM μ (n + 1)) [.str "gave", .raw a] [.str "gave", .lst (ws.map fun w => .str w.s)] else some false) = some true
  rw [if_neg (by decide), if_pos rfl]
  refine rowsL_ok rfl (by decide : 2 < 1000000) ?_
  unfold rowsM
  rw [sameM_str]
  unfold rowsM
  rw [e]
  rfl
theorem opn_len {x y z : Int} : (opn x y z).length ≤ 4 := List.length_filter_le _ _
theorem i_dt {x y z : Int} {μ : Mu} {Q : PQ} {E : PX} (v : Valid x y z) (q : ∀ a, μ a = none → Q (.tup [.str "gave", .raw a]) (mset μ a (.lst ((opn x y z).map fun w => .str w.s)))) : [rw3 x y z].length = 1 ∧ sp_deeds_told [rw3 x y z] μ Q E :=
  ⟨rfl, .int x, .int y, .int z, rfl, .inl ⟨_, rfl⟩, .inl ⟨_, rfl⟩, .inl ⟨_, rfl⟩, fun i j k a e1 e2 e3 _ ha => by cases e1; cases e2; cases e3; exact q a ha, fun w d h => by rw [due_valid v] at h; cases h⟩
theorem i_inO {x y z : Int} {d : Str} {μ : Mu} {Q : PQ} (q : Q (.bl (opT x y z d)) μ) : gIn false (.str d) (.lst ((opn x y z).map fun w => D.str w.s)) μ Q :=
  Or.inl ⟨_, rfl, rfl, flat_opn, by rw [in_opn, Bool.false_xor]; exact q⟩
theorem i_same2 {x y : D} {μ : Mu} {Q : PQ} {E : PX} (h : sameM μ 2 x y = some true) (q : Q (.bl true) μ) : [x, y].length = 2 ∧ sp_sameN 2 [x, y] μ Q E := ⟨rfl, x, y, true, rfl, h, q⟩
theorem i_addL {xs ys : List D} {μ : Mu} {Q : PQ} (h : xs.length + ys.length ≤ sizeLine) (q : Q (.lst (xs ++ ys)) μ) : gAdd (.lst xs) (.lst ys) μ Q := .inr (.inr (.inl ⟨_, _, rfl, rfl, h, q⟩))
/-! _law_race_right -/
def N_race_right : List Str := ["_law_numbers", "_law_odd", "_law_words", "_law_told", "_law_word", "_law_due"]
def P_race_right : List Str := ["_law_numbers", "_law_odd"]
abbrev w_race_right_p0 : WS := (wSeq (wFor (wIt (wOp gAdd (wLst (wCons (wC (.str "pass")) (wCons (wC (.str "own")) (wCons (wC (.str "share")) (wCons (wC (.str "fill")) wNil))))) (wVar 1))) (wgName 4) (wSeq (wAsg 5 (wTup (wCons (wC (.str "NoEntry")) (wCons (wVar 4) (wCons (wC (.bl true)) wNil)))))
    (wSeq (wIfS (wTB (wOp (gIn false) (wVar 4) (wVar 2))) (wAsg 5 (wTup (wCons (wC (.str "gave")) (wCons (wCall 2 sp_led (wCons (wVar 0) (wCons (wVar 4) wNil))) wNil)))) wNext)
    (wIfS (wNotT (wTru (wCall 2 (sp_sameN 2) (wCons (wCall 2 sp_after_told (wCons (wVar 0) (wCons (wVar 4) wNil))) (wCons (wVar 5) wNil))))) (wRet (wC (.bl false))) wNext))))
  (wRet (wCall 2 (sp_sameN 2) (wCons (wCall 1 sp_deeds_told (wCons (wVar 0) wNil)) (wCons (wTup (wCons (wC (.str "gave")) (wCons (wVar 2) wNil))) wNil)))))
def w_race_right  : WS := (wSeq (wAsg 2 (wCall 1 sp_open_words (wCons (wVar 0) wNil)))
  (wSeq (wAsg 3 (wCall 1 sp_deeds_told (wCons (wVar 0) wNil)))
  (wSeq (wIfS (wNotT (wTru (wCall 2 (sp_sameN 2) (wCons (wVar 3) (wCons (wTup (wCons (wC (.str "gave")) (wCons (wVar 2) wNil))) wNil))))) (wRet (wC (.bl false))) wNext)
  (wSeq (wDrop (wMt "list" gAppend (wOp gIx (wVar 3) (wC (.int 1))) (wCons (wC (.str "none")) wNil)))
  w_race_right_p0))))
def G_race_right : Gam := ⟨[⟨"_law_same", 2, [], false, (sp_sameN 2)⟩, ⟨"_law_deeds_told", 1, [], false, sp_deeds_told⟩, ⟨"_law_after_told", 2, [], false, sp_after_told⟩, ⟨"_law_led", 2, [], false, sp_led⟩, ⟨"_law_open_words", 1, [], true, sp_open_words⟩], [], [], [], []⟩
def sp_race_right : SpD := fun ds μ Q _ => ∃ (x y z : Int) (odd : List Str), ds = [rw3 x y z, .lst (odd.map D.str)] ∧ Valid x y z ∧ odd.length < 1000 ∧ Q (.bl true) μ
theorem pf_race_right : ∀ ds μ Q E, sp_race_right ds μ Q E → w_race_right (endK Q E) (startD N_race_right ds) μ := by
  rintro ds μ Q E ⟨x, y, z, odd, rfl, v, hl, q⟩
  have hl4 := @opn_len x y z
  unfold w_race_right
  rotate_left 901
  refine ⟨rfl, x, y, z, rfl, ?_⟩
  rotate_left 901
  refine i_dt v fun a ha => ?_
  rotate_left 901
  refine i_same2 (sameM_words (by omega) mset_same) ?_
  rotate_left 901
  refine ⟨tymL mset_same, ?_⟩
  rotate_left 901
  refine i_app mset_same (by rw [List.length_map]; exact Nat.lt_of_le_of_lt hl4 (by decide)) ?_
  rw [mset_mset]
  rotate_left 901
  refine i_addL (by rw [List.length_map]; exact Nat.le_trans (show 4 + odd.length ≤ 1004 by omega) (by decide)) ?_
  refine Or.inl ⟨_, rfl, ?_⟩
  generalize hμ1 : mset μ a _ = μ1
  have hs1 : Less μ μ1 := by rw [← hμ1]; exact less_new ha
  refine forLoop_inv (fun rem ρ μ' => μ' = μ1 ∧ (∀ d ∈ rem, ∃ s, d = D.str s) ∧ ∃ z1 z2, ρ = [some (rw3 x y z), some (.lst (odd.map D.str)), some (.lst ((opn x y z).map fun w => .str w.s)), some (.tup [.str "gave", .raw a]), z1, z2]) (fun _ _ _ _ => rfl) ?_ ?_ _ _ _ ⟨rfl, ?_, none, none, rfl⟩
  · rintro ρ μ' ⟨rfl, _, z1, z2, rfl⟩
    rotate_left 901
    refine i_dt v fun a2 ha2 => ?_
    rotate_left 902
    refine i_same2 (sameM_words (by omega) mset_same) ?_
    rotate_left 902
    exact i_back (fun b m e => less_new ha2 b m (hs1 b m e)) q
  · rintro d ds ρ μ' ⟨rfl, hd, z1, z2, rfl⟩ nx hnx
    obtain ⟨s, rfl⟩ := hd _ (List.mem_cons_self ..)
    have hd2 : ∀ d ∈ ds, ∃ s, d = D.str s := fun d h => hd d (List.mem_cons_of_mem _ h)
    rotate_left 901
    refine i_inO ?_
    rotate_left 901
    cases ho : opT x y z s with
    | false =>
      rotate_left 901
      refine ⟨rfl, .int x, .int y, .int z, s, rfl, .inl ⟨_, rfl⟩, .inl ⟨_, rfl⟩, .inl ⟨_, rfl⟩, fun w e h => (by rw [due_valid v] at h; cases h), fun i j k e1 e2 e3 _ => ?_⟩
      cases e1; cases e2; cases e3
      refine ⟨fun _ => ?_, fun w hw hop => ?_⟩
      · rotate_left 901
        refine i_same2 (sameM_tup (by decide : 3 < 1000000) fun d h => ?_) ?_
        · simp only [List.mem_cons, List.not_mem_nil, or_false] at h
          rcases h with rfl | rfl | rfl
          · exact sameM_str
          · exact sameM_str
          · exact sameM_bl
        · rotate_left 901
          exact hnx _ _ ⟨rfl, hd2, _, _, rfl⟩
      · have : opT x y z s = true := List.any_eq_true.mpr ⟨w, List.mem_filter.mpr ⟨mem_four w, hop⟩, decide_eq_true hw.symm⟩
        rw [ho] at this
        cases this
    | true =>
      obtain ⟨w, hw, e⟩ := List.any_eq_true.mp ho
      have e := (of_decide_eq_true e).symm
      have hop := (List.mem_filter.mp hw).2
      subst e
      rotate_left 901
      have hled : ∀ (r : D), (dec (F0 x y z 0) w .fill + dec (F0 x y z 0) w .share = 0 → r = .non) → (dec (F0 x y z 0) w .fill + dec (F0 x y z 0) w .share ≠ 0 → r = .tup [.int (dec (F0 x y z 0) w .fill), .int (dec (F0 x y z 0) w .own), .int (dec (F0 x y z 0) w .share)]) → ∀ (Q' : PQ) (E' : PX), Q' (.tup [.str "gave", r]) μ' → [rw3 x y z, D.str w.s].length = 2 ∧ sp_after_told [rw3 x y z, D.str w.s] μ' Q' E' := fun r r1 r2 Q' E' q' =>
        ⟨rfl, .int x, .int y, .int z, w.s, rfl, .inl ⟨_, rfl⟩, .inl ⟨_, rfl⟩, .inl ⟨_, rfl⟩, fun w e h => (by rw [due_valid v] at h; cases h), fun i j k e1 e2 e3 _ => by
          cases e1; cases e2; cases e3
          refine ⟨fun h => (by rw [ho] at h; cases h), fun w2 hw2 hop2 => ?_⟩
          cases Wo.inj hw2
          exact ⟨fun h => by rw [r1 h] at q'; exact q', fun h => by rw [r2 h] at q'; exact q'⟩⟩
      refine ⟨rfl, x, y, z, w, rfl, fun hn => ?_, fun hn => ?_⟩
      · rotate_left 901
        refine hled .non (fun _ => rfl) (fun h => absurd hn h) _ _ ?_
        rotate_left 901
        refine i_same2 (sameM_tup (by decide : 2 < 1000000) fun d h => ?_) ?_
        · simp only [List.mem_cons, List.not_mem_nil, or_false] at h
          rcases h with rfl | rfl
          · exact sameM_str
          · exact sameM_non
        · rotate_left 901
          exact hnx _ _ ⟨rfl, hd2, _, _, rfl⟩
      · rotate_left 901
        refine hled _ (fun h => absurd h hn) (fun _ => rfl) _ _ ?_
        rotate_left 901
        refine i_same2 (sameM_tup (by decide : 2 < 1000000) fun d h => ?_) ?_
        · simp only [List.mem_cons, List.not_mem_nil, or_false] at h
          rcases h with rfl | rfl
          · exact sameM_str
          · refine sameM_tup (by decide : 3 < 1000000) fun d h => ?_
            simp only [List.mem_cons, List.not_mem_nil, or_false] at h
            rcases h with rfl | rfl | rfl <;> exact sameM_int
        · rotate_left 901
          exact hnx _ _ ⟨rfl, hd2, _, _, rfl⟩
  · intro d h
    rcases List.mem_append.mp h with h | h
    · simp only [List.mem_cons, List.not_mem_nil, or_false] at h
      rcases h with rfl | rfl | rfl | rfl <;> exact ⟨_, rfl⟩
    · obtain ⟨s, _, rfl⟩ := List.mem_map.mp h
      exact ⟨s, rfl⟩
theorem i_rr {x y z : Int} {odd : List Str} {μ : Mu} {Q : PQ} {E : PX} (v : Valid x y z) (hl : odd.length < 1000) (q : Q (.bl true) μ) : [rw3 x y z, .lst (odd.map D.str)].length = 2 ∧ sp_race_right [rw3 x y z, .lst (odd.map D.str)] μ Q E := ⟨rfl, x, y, z, odd, rfl, v, hl, q⟩
end K73


set_option maxRecDepth 100000
set_option maxHeartbeats 4000000
namespace K76
open PySem PySem.Spec PyProof.Rows L2 T2 K74 K73
def isX_TooMany : Str → Bool := fun c => memB c ["TooMany"]
def isX_BadName : Str → Bool := fun c => memB c ["BadName"]
def isX_ValueError : Str → Bool := fun c => memB c ["ValueError", "TworoomsError", "BadNumber", "NoEntry"]
def bestW (x y z : Int) (p : Bool) : Wo := if p = true ∧ vV x y z p ≠ .W then .pass else if 1 ≤ y then .fill else if vV x y z p = .W then .share else .pass
theorem bestW_ok {x y z : Int} (p : Bool) (v : Valid x y z) : opB x y z (bestW x y z p) = true ∧ rbV x y z p (bestW x y z p) = vV x y z p := by
  unfold Valid at v
  unfold bestW
  have m1 := mA_spec z
  have m2 := mB_spec z
  have m3 := mA_spec (z - 1)
  have m4 := mB_spec (z - 1)
  split
  · rename_i h
    obtain ⟨rfl, h⟩ := h
    refine ⟨decide_eq_true (by simp [dec, F0]; omega), ?_⟩
    have e : vV x y z true = .P := by
      cases hv : vV x y z true with
      | W => exact absurd hv h
      | P => rfl
      | L => have := (vL hv).2.2; cases this
    rw [e]
    unfold rbV
    rw [if_neg (by simp [dec, F0]; omega), if_pos ⟨rfl, rfl⟩]
  · rename_i h
    split
    · rename_i hy
      refine ⟨decide_eq_true (by simp [dec, F0]; omega), ?_⟩
      unfold rbV
      by_cases h0 : dec (F0 x y z 0) .fill .fill + dec (F0 x y z 0) .fill .share = 0
      · rw [if_pos h0]
        simp [dec, F0] at h0
        unfold vV
        rw [if_pos (by omega)]
      · rw [if_neg h0, if_neg (by simp)]
        simp only [dec, F0, reduceCtorEq, if_false, if_true, decide_false] at h0 ⊢
        unfold vV
        by_cases a : mA z ≤ x - y
        · rw [if_pos a, if_neg (show ¬ mA z ≤ y - 1 - x by omega), if_pos (show mB z ≤ x - (y - 1) ∧ false = false from ⟨by omega, rfl⟩)]; rfl
        · rw [if_neg a]
          have hp : p = false := by
            cases p with
            | false => rfl
            | true => exact absurd ⟨rfl, by unfold vV; rw [if_neg a, if_neg (by simp)]; simp⟩ h
          subst hp
          by_cases b : mB z ≤ y - x
          · rw [if_pos (show mA z ≤ y - 1 - x by omega), if_pos (show mB z ≤ y - x ∧ false = false from ⟨b, rfl⟩)]; rfl
          · rw [if_neg (show ¬ mA z ≤ y - 1 - x by omega), if_neg (show ¬ (mB z ≤ x - (y - 1) ∧ false = false) from fun q => absurd q.1 (by omega)), if_neg (show ¬ (mB z ≤ y - x ∧ false = false) from fun q => b q.1)]; rfl
    · rename_i hy
      have hy0 : y = 0 := by omega
      subst hy0
      split
      · rename_i hw
        have a : mA z ≤ x - 0 := by
          unfold vV at hw
          split at hw
          · assumption
          · split at hw <;> cases hw
        refine ⟨decide_eq_true (by simp [dec, F0]; omega), ?_⟩
        rw [hw]
        unfold rbV
        by_cases h0 : dec (F0 x 0 z 0) .share .fill + dec (F0 x 0 z 0) .share .share = 0
        · rw [if_pos h0]
        · rw [if_neg h0, if_neg (by simp)]
          simp only [dec, F0, reduceCtorEq, if_false, if_true, decide_false] at h0 ⊢
          unfold vV
          rw [if_neg (show ¬ mA (z - 1) ≤ 0 - x by omega), if_pos (show mB (z - 1) ≤ x - 0 ∧ false = false from ⟨by omega, rfl⟩)]; rfl
      · rename_i hw
        have hp : p = false := by
          cases p with
          | false => rfl
          | true => exact absurd ⟨rfl, hw⟩ h
        subst hp
        have a : ¬ mA z ≤ x - 0 := fun q => hw (by unfold vV; rw [if_pos q])
        refine ⟨decide_eq_true (by simp [dec, F0]; omega), ?_⟩
        unfold rbV
        rw [if_neg (by simp [dec, F0]; omega), if_neg (by simp)]
        simp only [dec, F0, reduceCtorEq, if_false, if_true, decide_true]
        unfold vV
        rw [if_neg a, if_neg (show ¬ (mB z ≤ 0 - x ∧ false = false) from fun q => absurd q.1 (by omega)), if_neg (show ¬ mA z ≤ 0 - x by omega), if_neg (show ¬ (mB z ≤ x - 0 ∧ true = false) from fun q => by cases q.2)]; rfl
theorem V3.ns {a : V3} : (a.s = ("wins" : Str)) ↔ a = .W := ⟨fun h => V3.inj (b := .W) h, fun h => by rw [h]; rfl⟩
theorem V3.ps {a : V3} : (a.s = ("peace" : Str)) ↔ a = .P := ⟨fun h => V3.inj (b := .P) h, fun h => by rw [h]; rfl⟩
/-! best_by_rule -/
def N_m_best_by_rule : List Str := ["own", "other", "shared", "after_pass", "value"]
def P_m_best_by_rule : List Str := ["own", "other", "shared", "after_pass"]
def w_m_best_by_rule  : WS := (wSeq (wAsg 4 (wCall 4 sp_m_value_by_rule (wCons (wVar 0) (wCons (wVar 1) (wCons (wVar 2) (wCons (wVar 3) wNil))))))
  (wSeq (wIfS (wAndT (wTru (wVar 3)) (wTB (wOp gNe (wVar 4) (wC (.str "wins"))))) (wRet (wC (.str "pass"))) wNext)
  (wSeq (wIfS (wTB (wOp gGe (wVar 1) (wC (.int 1)))) (wRet (wC (.str "fill"))) wNext)
  (wSeq (wIfS (wTB (wOp gEq (wVar 4) (wC (.str "wins")))) (wRet (wC (.str "share"))) wNext)
  (wRet (wC (.str "pass")))))))
def G_m_best_by_rule : Gam := ⟨[⟨"value_by_rule", 4, [], false, sp_m_value_by_rule⟩], [("STAY", (.str "pass")), ("WINS", (.str "wins")), ("SHARE", (.str "share")), ("FILL", (.str "fill"))], [], [], []⟩
def sp_m_best_by_rule : SpD := fun ds μ Q _ => ∃ x y z p, ds = [.int x, .int y, .int z, .bl p] ∧ Q (.str (bestW x y z p).s) μ
theorem pf_m_best_by_rule : ∀ ds μ Q E, sp_m_best_by_rule ds μ Q E → w_m_best_by_rule (endK Q E) (startD N_m_best_by_rule ds) μ := by
  rintro ds μ Q E ⟨x, y, z, p, rfl, q⟩
  unfold w_m_best_by_rule
  rotate_left 901
  refine ⟨rfl, x, y, z, p, rfl, ?_⟩
  rw [vS_eq]
  unfold bestW at q
  cases p
  · rotate_left 901
    · rw [if_neg (by simp), if_pos h] at q; exact q
    · rename_i h0; rw [if_neg (by simp), if_neg h0, if_pos (V3.ns.mp h)] at q; exact q
    · rename_i h0; rw [if_neg (by simp), if_neg h0, if_neg (fun e => h (V3.ns.mpr e))] at q; exact q
  · rotate_left 901
    · rw [if_pos ⟨rfl, fun e => h (V3.ns.mpr e)⟩] at q; exact q
    · rename_i h0; rw [if_neg (fun e => e.2 (V3.ns.mp h0)), if_pos h] at q; exact q
    · rename_i h0 h1; rw [if_neg (fun e => e.2 (V3.ns.mp h0)), if_neg h1, if_pos (V3.ns.mp h)] at q; exact q
    · rename_i h0 h1; exact absurd h0 h
/-! race_best -/
def N_m_race_best : List Str := ["own", "other", "shared", "after_pass"]
def P_m_race_best : List Str := ["own", "other", "shared", "after_pass"]
def w_m_race_best  : WS := (wSeq (wDrop (wCall 4 sp_m_check_race (wCons (wVar 0) (wCons (wVar 1) (wCons (wVar 2) (wCons (wC (.int 1000000)) wNil))))))
  (wRet (wCall 4 sp_m_best_by_rule (wCons (wVar 0) (wCons (wVar 1) (wCons (wVar 2) (wCons (wVar 3) wNil)))))))
def G_m_race_best : Gam := ⟨[⟨"best_by_rule", 4, [], false, sp_m_best_by_rule⟩, ⟨"check_race", 4, [], false, sp_m_check_race⟩], [("MOST_RACE", (.int 1000000))], [], [], []⟩
def sp_m_race_best0 (x y z : D) (p : Bool) (μ : Mu) (Q : PQ) (E : PX) : Prop := Sc x ∧ Sc y ∧ Sc z ∧ outc (due 1000000 x y z) (∀ i j k, x = .int i → y = .int j → z = .int k → Q (.str (bestW i j k p).s) μ) E μ
def sp_m_race_best : SpD := fun ds μ Q E => ∃ x y z p, ds = [x, y, z, .bl p] ∧ sp_m_race_best0 x y z p μ Q E
theorem pf_m_race_best : ∀ ds μ Q E, sp_m_race_best ds μ Q E → w_m_race_best (endK Q E) (startD N_m_race_best ds) μ := by
  rintro ds μ Q E ⟨x, y, z, p, rfl, hx, hy, hz, q1, q2⟩
  unfold w_m_race_best
  rotate_left 901
  refine ⟨rfl, x, y, z, _, rfl, hx, hy, hz, fun h => ?_, q2⟩
  obtain ⟨i, j, k, rfl, rfl, rfl, v⟩ := valid_due h
  rotate_left 901
  refine ⟨rfl, i, j, k, p, rfl, ?_⟩
  rotate_left 901
  exact q1 h i j k rfl rfl rfl
def sp_m_race_best3 : SpD := fun ds μ Q E => sp_m_race_best (ds ++ [.bl false]) μ Q E
/-! _law_race_best -/
def N_race_best : List Str := ["_law_own", "_law_other", "_law_shared", "_law_passed", "_law_value"]
def P_race_best : List Str := ["_law_own", "_law_other", "_law_shared", "_law_passed"]
def w_race_best  : WS := (wSeq (wAsg 4 (wCall 4 sp_race_value (wCons (wVar 0) (wCons (wVar 1) (wCons (wVar 2) (wCons (wVar 3) wNil))))))
  (wSeq (wIfS (wAndT (wTru (wVar 3)) (wTB (wOp gNe (wVar 4) (wC (.str "wins"))))) (wRet (wC (.str "pass"))) wNext)
  (wSeq (wIfS (wTB (wOp gGe (wVar 1) (wC (.int 1)))) (wRet (wC (.str "fill"))) wNext)
  (wSeq (wIfS (wTB (wOp gEq (wVar 4) (wC (.str "wins")))) (wRet (wC (.str "share"))) wNext)
  (wRet (wC (.str "pass")))))))
def G_race_best : Gam := ⟨[⟨"_law_race_value", 4, [], false, sp_race_value⟩], [], [], [], []⟩
def sp_race_best : SpD := fun ds μ Q _ => ∃ x y z p, ds = [.int x, .int y, .int z, .bl p] ∧ Q (.str (bestW x y z p).s) μ
theorem pf_race_best : ∀ ds μ Q E, sp_race_best ds μ Q E → w_race_best (endK Q E) (startD N_race_best ds) μ := by
  rintro ds μ Q E ⟨x, y, z, p, rfl, q⟩
  unfold w_race_best
  rotate_left 901
  refine ⟨rfl, x, y, z, p, rfl, ?_⟩
  rw [vS_eq]
  unfold bestW at q
  cases p
  · rotate_left 901
    · rw [if_neg (by simp), if_pos h] at q; exact q
    · rename_i h0; rw [if_neg (by simp), if_neg h0, if_pos (V3.ns.mp h)] at q; exact q
    · rename_i h0; rw [if_neg (by simp), if_neg h0, if_neg (fun e => h (V3.ns.mpr e))] at q; exact q
  · rotate_left 901
    · rw [if_pos ⟨rfl, fun e => h (V3.ns.mpr e)⟩] at q; exact q
    · rename_i h0; rw [if_neg (fun e => e.2 (V3.ns.mp h0)), if_pos h] at q; exact q
    · rename_i h0 h1; rw [if_neg (fun e => e.2 (V3.ns.mp h0)), if_neg h1, if_pos (V3.ns.mp h)] at q; exact q
    · rename_i h0 h1; exact absurd h0 h
/-! _law_race_after -/
def N_race_after : List Str := ["_law_own", "_law_other", "_law_shared", "_law_deed"]
def P_race_after : List Str := ["_law_own", "_law_other", "_law_shared", "_law_deed"]
def w_race_after  : WS := (wSeq (wIfS (wTB (wOp gEq (wVar 3) (wC (.str "fill")))) (wAsg 1 (wOp gSub (wVar 1) (wC (.int 1)))) wNext)
  (wSeq (wIfS (wTB (wOp gEq (wVar 3) (wC (.str "share")))) (wAsg 2 (wOp gSub (wVar 2) (wC (.int 1)))) wNext)
  (wSeq (wIfS (wTB (wOp gEq (wVar 3) (wC (.str "own")))) (wAsg 0 (wOp gSub (wVar 0) (wC (.int 1)))) wNext)
  (wSeq (wIfS (wTB (wOp gEq (wOp gAdd (wVar 1) (wVar 2)) (wC (.int 0)))) (wRet (wC .non)) wNext)
  (wRet (wTup (wCons (wVar 1) (wCons (wVar 0) (wCons (wVar 2) wNil)))))))))
def G_race_after : Gam := ⟨[], [], [], [], []⟩
def sp_race_after : SpD := fun ds μ Q _ => ∃ x y z w, ds = [.int x, .int y, .int z, .str (Wo.s w)] ∧ (dec (F0 x y z 0) w .fill + dec (F0 x y z 0) w .share = 0 → Q .non μ) ∧
  (dec (F0 x y z 0) w .fill + dec (F0 x y z 0) w .share ≠ 0 → Q (.tup [.int (dec (F0 x y z 0) w .fill), .int (dec (F0 x y z 0) w .own), .int (dec (F0 x y z 0) w .share)]) μ)
theorem pf_race_after : ∀ ds μ Q E, sp_race_after ds μ Q E → w_race_after (endK Q E) (startD N_race_after ds) μ := by
  rintro ds μ Q E ⟨x, y, z, w, rfl, q1, q2⟩
  unfold w_race_after
  cases w
  all_goals simp only [Wo.s] at *
  all_goals rotate_left 903
  all_goals first
    | exact q1 (by simp [dec, F0]; omega)
    | exact q2 (by simp [dec, F0]; omega)
/-! _law_race_deeds -/
def N_race_deeds : List Str := ["_law_own", "_law_other", "_law_shared", "_law_deeds"]
def P_race_deeds : List Str := ["_law_own", "_law_other", "_law_shared"]
abbrev w_race_deeds_p0 : WS := (wSeq (wIfS (wAndT (wTB (wOp gGe (wVar 2) (wC (.int 1)))) (wOrT (wTB (wOp gEq (wOp gAdd (wVar 1) (wVar 2)) (wC (.int 1)))) (wTB (wOp gGe (wOp gAdd (wVar 0) (wVar 2)) (wC (.int 2)))))) (wDrop (wMt "list" gAppend (wVar 3) (wCons (wC (.str "share")) wNil))) wNext)
  (wSeq (wIfS (wAndT (wTB (wOp gGe (wVar 0) (wC (.int 1)))) (wTB (wOp gGe (wOp gAdd (wVar 0) (wVar 2)) (wC (.int 2))))) (wDrop (wMt "list" gAppend (wVar 3) (wCons (wC (.str "own")) wNil))) wNext)
  (wRet (wOp gAdd (wVar 3) (wLst (wCons (wC (.str "pass")) wNil))))))
def w_race_deeds  : WS := (wSeq (wAsg 3 (wLstM wNil))
  (wSeq (wIfS (wTB (wOp gGe (wVar 1) (wC (.int 1)))) (wDrop (wMt "list" gAppend (wVar 3) (wCons (wC (.str "fill")) wNil))) wNext)
  w_race_deeds_p0))
def G_race_deeds : Gam := ⟨[], [], [], [], []⟩
def sp_race_deeds : SpD := fun ds μ Q _ => ∃ x y z : Int, ds = [.int x, .int y, .int z] ∧ Valid x y z ∧ Q (.lst ((opn x y z).map fun w => .str w.s)) μ
theorem i_addR {a : Addr} {xs ys : List D} {μ : Mu} {Q : PQ} (ha : μ a = some (.lst xs)) (h : xs.length + ys.length ≤ sizeLine) (q : Q (.lst (xs ++ ys)) μ) : gAdd (.raw a) (.lst ys) μ Q := .inr (.inr (.inl ⟨_, _, by simp only [getM, ha], rfl, h, q⟩))
theorem pf_race_deeds : ∀ ds μ Q E, sp_race_deeds ds μ Q E → w_race_deeds (endK Q E) (startD N_race_deeds ds) μ := by
  rintro ds μ Q E ⟨x, y, z, rfl, v, q⟩
  rw [opn_eq v] at q
  unfold w_race_deeds
  rotate_left 35098
  with_reducible refine i_seq ?_
  rotate_left 35098
  intro a ha
  with_reducible refine i_cut (fun ρ' μ' => ρ' = [some (.int x), some (.int y), some (.int z), some (.raw a)] ∧ μ' = mset μ a (.lst ((if 1 ≤ y then [Wo.fill] else []).map fun w => .str w.s))) (fun ρ' μ' hJ => ?_) fun nx hnx => ?_
  · obtain ⟨rfl, rfl⟩ := hJ
    generalize hL1 : (if 1 ≤ y then [Wo.fill] else []) = L1 at q ⊢
    have hl1 : L1.length ≤ 1 := by rw [← hL1]; split <;> decide
    with_reducible refine i_cut (fun ρ' μ' => ρ' = [some (.int x), some (.int y), some (.int z), some (.raw a)] ∧ μ' = mset μ a (.lst ((L1 ++ (if 1 ≤ z ∧ (y + z = 1 ∨ 2 ≤ x + z) then [Wo.share] else [])).map fun w => .str w.s))) (fun ρ' μ' hJ => ?_) fun nx hnx => ?_
    · obtain ⟨rfl, rfl⟩ := hJ
      generalize hL2 : L1 ++ (if 1 ≤ z ∧ (y + z = 1 ∨ 2 ≤ x + z) then [Wo.share] else []) = L2 at q ⊢
      have hl2 : L2.length ≤ 2 := by rw [← hL2, List.length_append]; split <;> simp <;> omega
      with_reducible refine i_cut (fun ρ' μ' => ρ' = [some (.int x), some (.int y), some (.int z), some (.raw a)] ∧ μ' = mset μ a (.lst ((L2 ++ (if 1 ≤ x ∧ 2 ≤ x + z then [Wo.own] else [])).map fun w => .str w.s))) (fun ρ' μ' hJ => ?_) fun nx hnx => ?_
      · obtain ⟨rfl, rfl⟩ := hJ
        generalize hL3 : L2 ++ (if 1 ≤ x ∧ 2 ≤ x + z then [Wo.own] else []) = L3 at q ⊢
        have hl3 : L3.length ≤ 3 := by rw [← hL3, List.length_append]; split <;> simp <;> omega
        rotate_left 902
        refine i_addR mset_same (by rw [List.length_map]; exact Nat.le_trans (show L3.length + 1 ≤ 4 by omega) (by decide)) ?_
        refine i_back (less_new ha) ?_
        have := q
        rw [List.map_append] at this
        exact this
      · rotate_left 901
        all_goals first
          | (refine ⟨tymL mset_same, ?_⟩
             rotate_left 901
             refine i_app mset_same (by rw [List.length_map]; exact Nat.lt_of_le_of_lt hl2 (by decide)) ?_
             rw [mset_mset]
             rotate_left 901
             exact hnx _ _ ⟨rfl, by rw [if_pos (by omega), List.map_append]; rfl⟩)
          | exact hnx _ _ ⟨rfl, by rw [if_neg (by omega), List.append_nil]⟩
    · rotate_left 901
      all_goals first
        | (refine ⟨tymL mset_same, ?_⟩
           rotate_left 901
           refine i_app mset_same (by rw [List.length_map]; exact Nat.lt_of_le_of_lt hl1 (by decide)) ?_
           rw [mset_mset]
           rotate_left 901
           exact hnx _ _ ⟨rfl, by rw [if_pos (by omega), List.map_append]; rfl⟩)
        | exact hnx _ _ ⟨rfl, by rw [if_neg (by omega), List.append_nil]⟩
  · rotate_left 901
    all_goals first
      | (refine ⟨tymL mset_same, ?_⟩
         rotate_left 901
         refine i_app mset_same (by decide) ?_
         rw [mset_mset]
         rotate_left 901
         exact hnx _ _ ⟨rfl, by rw [if_pos (by omega)]; rfl⟩)
      | exact hnx _ _ ⟨rfl, by rw [if_neg (by omega)]; rfl⟩
end K76


set_option maxRecDepth 100000
set_option maxHeartbeats 4000000
namespace K76
open PySem PySem.Spec PyProof.Rows L2 T2 K74 K73
/-! _law_best_asked -/
def N_best_asked : List Str := ["_law_row", "_law_passed", "e", "_law_alone", "_law_good"]
def P_best_asked : List Str := ["_law_row", "_law_passed"]
def w_best_asked  : WS := (wTry isX_BadNumber 2 (wRet (wTup (wCons (wC (.str "gave")) (wCons (wCallK 3 1 sp_m_race_best (wCons (wOp gIx (wVar 0) (wC (.int 0))) (wCons (wOp gIx (wVar 0) (wC (.int 1))) (wCons (wOp gIx (wVar 0) (wC (.int 2))) wNil))) (wCons (wVar 1) wNil)) wNil)))) fun a ca dx => (wSeq (wAsg 3 (wAnd (wNot (wXi a ca dx (isX_NoEntry) (wVar 2))) (wAnd (wNot (wXi a ca dx (isX_TooMany) (wVar 2))) (wNot (wXi a ca dx (isX_BadName) (wVar 2))))))
    (wSeq (wAsg 4 (wAnd (wXi a ca dx (isX_TworoomsError) (wVar 2)) (wXi a ca dx (isX_ValueError) (wVar 2))))
    (wRet (wTup (wCons (wC (.str "raised")) (wCons (wC (.str "BadNumber")) (wCons (wTup (wCons (wXf a ca dx "what" (wVar 2)) (wCons (wXf a ca dx "value" (wVar 2)) wNil))) (wCons (wAnd (wVar 3) (wVar 4)) wNil)))))))))
def G_best_asked : Gam := ⟨[⟨"race_best", 3, ["after_pass"], false, sp_m_race_best⟩], [], [], [("BadNumber", isX_BadNumber), ("ValueError", isX_ValueError), ("TworoomsError", isX_TworoomsError), ("BadName", isX_BadName), ("TooMany", isX_TooMany), ("NoEntry", isX_NoEntry)], ["value", "what"]⟩
def sp_best_asked : SpD := fun ds μ Q _ => ∃ x y z p, ds = [.tup [x, y, z], .bl p] ∧ Sc x ∧ Sc y ∧ Sc z ∧ (∀ i j k, x = .int i → y = .int j → z = .int k → due 1000000 x y z = none → Q (.tup [.str "gave", .str (bestW i j k p).s]) μ) ∧
  (∀ w d, due 1000000 x y z = some (w, d) → Q (.tup [.str "raised", .str "BadNumber", .tup [.str w, d], .bl true]) μ)
theorem pf_best_asked : ∀ ds μ Q E, sp_best_asked ds μ Q E → w_best_asked (endK Q E) (startD N_best_asked ds) μ := by
  rintro ds μ Q E ⟨x, y, z, p, rfl, hx, hy, hz, q1, q2⟩
  unfold w_best_asked
  rotate_left 901
  refine ⟨rfl, rfl, x, y, z, p, rfl, hx, hy, hz, fun h i j k e1 e2 e3 => ?_, fun w d h => ?_⟩
  · rotate_left 901
    exact q1 i j k e1 e2 e3 h
  · rotate_left 901
    intro a ca dx
    rotate_left 901
    exact q2 w d h
theorem i_asked {x y z : Int} {p : Bool} {μ : Mu} {Q : PQ} {E : PX} (v : Valid x y z) (q : Q (.tup [.str "gave", .str (bestW x y z p).s]) μ) : [rw3 x y z, .bl p].length = 2 ∧ sp_best_asked [rw3 x y z, .bl p] μ Q E :=
  ⟨rfl, .int x, .int y, .int z, p, rfl, .inl ⟨_, rfl⟩, .inl ⟨_, rfl⟩, .inl ⟨_, rfl⟩, fun i j k e1 e2 e3 _ => by cases e1; cases e2; cases e3; exact q, fun w d h => by rw [due_valid v] at h; cases h⟩
theorem i_value {x y z : Int} {p : Bool} {μ : Mu} {Q : PQ} {E : PX} (v : Valid x y z) (q : Q (.str (vV x y z p).s) μ) : sp_m_race_value [.int x, .int y, .int z, .bl p] μ Q E :=
  ⟨.int x, .int y, .int z, p, rfl, .inl ⟨_, rfl⟩, .inl ⟨_, rfl⟩, .inl ⟨_, rfl⟩, fun _ i j k e1 e2 e3 => by cases e1; cases e2; cases e3; rw [vS_eq]; exact q, fun w d h => by rw [due_valid v] at h; cases h⟩
theorem i_best {x y z : Int} {p : Bool} {μ : Mu} {Q : PQ} {E : PX} (q : Q (.str (bestW x y z p).s) μ) : [D.int x, .int y, .int z, .bl p].length = 4 ∧ sp_race_best [.int x, .int y, .int z, .bl p] μ Q E := ⟨rfl, x, y, z, p, rfl, q⟩
theorem i_lval {x y z : Int} {p : Bool} {μ : Mu} {Q : PQ} {E : PX} (q : Q (.str (vV x y z p).s) μ) : [D.int x, .int y, .int z, .bl p].length = 4 ∧ sp_race_value [.int x, .int y, .int z, .bl p] μ Q E := ⟨rfl, x, y, z, p, rfl, by rw [vS_eq]; exact q⟩
theorem i_mdeeds {x y z : Int} {μ : Mu} {Q : PQ} {E : PX} (v : Valid x y z) (q : ∀ a, μ a = none → Q (.raw a) (mset μ a (.lst ((opn x y z).map fun w => .str w.s)))) : [D.int x, .int y, .int z].length = 3 ∧ sp_m_race_deeds [.int x, .int y, .int z] μ Q E :=
  ⟨rfl, .int x, .int y, .int z, rfl, .inl ⟨_, rfl⟩, .inl ⟨_, rfl⟩, .inl ⟨_, rfl⟩, fun _ i j k a e1 e2 e3 ha => by cases e1; cases e2; cases e3; exact q a ha, fun w d h => by rw [due_valid v] at h; cases h⟩
theorem i_ldeeds {x y z : Int} {μ : Mu} {Q : PQ} {E : PX} (v : Valid x y z) (q : Q (.lst ((opn x y z).map fun w => .str w.s)) μ) : [D.int x, .int y, .int z].length = 3 ∧ sp_race_deeds [.int x, .int y, .int z] μ Q E := ⟨rfl, x, y, z, rfl, v, q⟩
theorem sameM_lst {μ : Mu} {n : Nat} {a : Addr} {xs : List D} (hl : xs.length < 1000000) (ha : μ a = some (.lst xs)) (h : ∀ d ∈ xs, sameM μ n d d = some true) : sameM μ (n + 1) (.raw a) (.lst xs) = some true := by
  unfold sameM
  rw [if_neg (by simp [sc4])]
  have : seqK μ (.raw a) = some (false, xs) := by simp only [seqK, ha]
  rw [this]
  show (if false = false then rowsL (sameM μ n) _ _ else some false) = some true
  rw [if_pos rfl]
  exact rowsL_self hl h
theorem opT_of {x y z : Int} {w : Wo} (h : opB x y z w = true) : opT x y z w.s = true := List.any_eq_true.mpr ⟨w, List.mem_filter.mpr ⟨mem_four w, h⟩, decide_eq_true rfl⟩
theorem i_same2 {x y : D} {μ : Mu} {Q : PQ} {E : PX} (h : sameM μ 2 x y = some true) (q : Q (.bl true) μ) : [x, y].length = 2 ∧ sp_sameN 2 [x, y] μ Q E := ⟨rfl, x, y, true, rfl, h, q⟩
theorem i_notin {x y z : Int} {a : Addr} {d : Str} {μ : Mu} {Q : PQ} (ha : μ a = some (.lst ((opn x y z).map fun w => .str w.s))) (q : Q (.bl (!opT x y z d)) μ) : gIn true (.str d) (.raw a) μ Q :=
  Or.inl ⟨_, getS_raw ha, rfl, flat_opn, by rw [in_opn, Bool.true_xor]; exact q⟩
theorem same3 {μ : Mu} {n : Nat} {i j k : Int} : sameM μ (n + 1) (.tup [.int i, .int j, .int k]) (.tup [.int i, .int j, .int k]) = some true := sameM_tup (by decide : 3 < 1000000) fun d h => by
  simp only [List.mem_cons, List.not_mem_nil, or_false] at h
  rcases h with rfl | rfl | rfl <;> exact sameM_int
/-! _law_reaches -/
def N_reaches : List Str := ["_law_row", "_law_passed", "_law_best", "_law_value", "_law_deeds", "_law_after", "_law_turned"]
def P_reaches : List Str := ["_law_row", "_law_passed", "_law_best"]
abbrev w_reaches_p0 : WS := (wSeq (wIfS (wTB (wOp gIs (wVar 5) (wC .non))) (wRet (wOp gEq (wVar 3) (wC (.str "wins")))) wNext)
  (wSeq (wAsg 6 (wOp gIx (wDict [((wC (.str "wins")), (wC (.str "loses"))), ((wC (.str "loses")), (wC (.str "wins"))), ((wC (.str "peace")), (wC (.str "peace")))]) (wVar 3)))
  (wRet (wCall 2 (sp_sameN 2) (wCons (wCallK 3 1 sp_m_race_value (wCons (wOp gIx (wVar 5) (wC (.int 0))) (wCons (wOp gIx (wVar 5) (wC (.int 1))) (wCons (wOp gIx (wVar 5) (wC (.int 2))) wNil))) (wCons (wOp gEq (wVar 2) (wC (.str "pass"))) wNil)) (wCons (wVar 6) wNil))))))
abbrev w_reaches_p1 : WS := (wSeq (wAsg 5 (wCall 4 sp_m_race_after (wCons (wOp gIx (wVar 0) (wC (.int 0))) (wCons (wOp gIx (wVar 0) (wC (.int 1))) (wCons (wOp gIx (wVar 0) (wC (.int 2))) (wCons (wVar 2) wNil))))))
  (wSeq (wIfS (wNotT (wTru (wCall 2 (sp_sameN 2) (wCons (wVar 5) (wCons (wCall 4 sp_race_after (wCons (wOp gIx (wVar 0) (wC (.int 0))) (wCons (wOp gIx (wVar 0) (wC (.int 1))) (wCons (wOp gIx (wVar 0) (wC (.int 2))) (wCons (wVar 2) wNil))))) wNil))))) (wRet (wC (.bl false))) wNext)
  (wSeq (wIfS (wAndT (wTB (wOp gEq (wVar 2) (wC (.str "pass")))) (wTru (wVar 1))) (wRet (wOp gEq (wVar 3) (wC (.str "peace")))) wNext)
  w_reaches_p0)))
abbrev w_reaches_p2 : WS := (wSeq (wIfS (wNotT (wTru (wCall 2 (sp_sameN 2) (wCons (wCallK 3 1 sp_m_race_value (wCons (wOp gIx (wVar 0) (wC (.int 0))) (wCons (wOp gIx (wVar 0) (wC (.int 1))) (wCons (wOp gIx (wVar 0) (wC (.int 2))) wNil))) (wCons (wVar 1) wNil)) (wCons (wVar 3) wNil))))) (wRet (wC (.bl false))) wNext)
  (wSeq (wAsg 4 (wCall 3 sp_m_race_deeds (wCons (wOp gIx (wVar 0) (wC (.int 0))) (wCons (wOp gIx (wVar 0) (wC (.int 1))) (wCons (wOp gIx (wVar 0) (wC (.int 2))) wNil)))))
  (wSeq (wIfS (wOrT (wNotT (wTru (wCall 2 (sp_sameN 2) (wCons (wVar 4) (wCons (wCall 3 sp_race_deeds (wCons (wOp gIx (wVar 0) (wC (.int 0))) (wCons (wOp gIx (wVar 0) (wC (.int 1))) (wCons (wOp gIx (wVar 0) (wC (.int 2))) wNil)))) wNil))))) (wTB (wOp (gIn true) (wVar 2) (wVar 4)))) (wRet (wC (.bl false))) wNext)
  w_reaches_p1)))
def w_reaches  : WS := (wSeq (wAsg 3 (wCall 4 sp_race_value (wCons (wOp gIx (wVar 0) (wC (.int 0))) (wCons (wOp gIx (wVar 0) (wC (.int 1))) (wCons (wOp gIx (wVar 0) (wC (.int 2))) (wCons (wVar 1) wNil))))))
  w_reaches_p2)
def G_reaches : Gam := ⟨[⟨"_law_same", 2, [], false, (sp_sameN 2)⟩, ⟨"race_value", 3, ["after_pass"], false, sp_m_race_value⟩, ⟨"_law_race_after", 4, [], false, sp_race_after⟩, ⟨"race_after", 4, [], false, sp_m_race_after⟩, ⟨"_law_race_deeds", 3, [], false, sp_race_deeds⟩, ⟨"race_deeds", 3, [], true, sp_m_race_deeds⟩, ⟨"_law_race_value", 4, [], false, sp_race_value⟩], [], [], [], []⟩
def sp_reaches : SpD := fun ds μ Q _ => ∃ x y z p, ds = [rw3 x y z, .bl p, .str (bestW x y z p).s] ∧ Valid x y z ∧ Q (.bl true) μ
theorem i_turn {v : V3} {μ : Mu} {Q : PQ} (q : Q (.str v.flip.s) μ) : gIx (.dct (kmerge [] [(.inr "wins", .str "loses"), (.inr "loses", .str "wins"), (.inr "peace", .str "peace")])) (.str v.s) μ Q := by
  cases v
  · exact i_ixK (kk := .inr "wins") rfl rfl (by kernel_rfl) q
  · exact i_ixK (kk := .inr "peace") rfl rfl (by kernel_rfl) q
  · exact i_ixK (kk := .inr "loses") rfl rfl (by kernel_rfl) q
theorem flip_flip {a : V3} : a.flip.flip = a := by cases a <;> rfl
theorem i_mk3 {P : List (Key × D) → Prop} (q : P (kmerge [] [(.inr "wins", .str "loses"), (.inr "loses", .str "wins"), (.inr "peace", .str "peace")])) : ∃ ks, keysOf [(D.str "wins", D.str "loses"), (.str "loses", .str "wins"), (.str "peace", .str "peace")] = some ks ∧ ks.length ≤ 15 ∧ P (kmerge [] ks) := ⟨_, rfl, (by decide : 3 ≤ 15), q⟩
theorem pf_reaches : ∀ ds μ Q E, sp_reaches ds μ Q E → w_reaches (endK Q E) (startD N_reaches ds) μ := by
  rintro ds μ Q E ⟨x, y, z, p, rfl, v, q⟩
  obtain ⟨hop, hrb⟩ := bestW_ok p v
  have hl4 : (opn x y z).length ≤ 4 := opn_len
  unfold w_reaches
  rotate_left 901
  refine i_lval ?_
  rotate_left 901
  refine ⟨rfl, rfl, ?_⟩
  refine i_value v ?_
  rotate_left 901
  refine i_same2 sameM_str ?_
  rotate_left 901
  refine i_mdeeds v fun a ha => ?_
  rotate_left 901
  refine i_ldeeds v ?_
  rotate_left 901
  refine i_same2 (sameM_lst (by rw [List.length_map]; omega) mset_same fun d hd => ?_) ?_
  · obtain ⟨w, _, rfl⟩ := List.mem_map.mp hd
    exact sameM_str
  rotate_left 901
  refine i_notin mset_same ?_
  rw [opT_of hop]
  generalize hμ1 : mset μ a _ = μ1
  have hs1 : Less μ μ1 := by rw [← hμ1]; exact less_new ha
  rotate_left 902
  refine ⟨rfl, .int x, .int y, .int z, _, rfl, .inl ⟨_, rfl⟩, .inl ⟨_, rfl⟩, .inl ⟨_, rfl⟩, fun w e h => (by rw [due_valid v] at h; cases h), fun i j k e1 e2 e3 _ => ?_⟩
  cases e1; cases e2; cases e3
  refine ⟨fun h => (by rw [opT_of hop] at h; cases h), fun w hw _ => ?_⟩
  cases Wo.inj hw
  have hd : decide ((bestW x y z p).s = ("pass" : Str)) = decide (bestW x y z p = .pass) := Wo.eqs _ .pass
  refine ⟨fun hn => ?_, fun hn => ?_⟩
  · have hw : vV x y z p = .W := by rw [← hrb]; unfold rbV; rw [if_pos hn]
    have hnp : bestW x y z p ≠ .pass := by
      intro h
      rw [h] at hn
      unfold Valid at v
      simp [dec, F0] at hn
      omega
    rotate_left 902
    refine ⟨rfl, x, y, z, _, rfl, fun _ => ?_, fun h => absurd hn h⟩
    rotate_left 902
    refine i_same2 sameM_non ?_
    rotate_left 902
    · exact absurd (Wo.sp.mp h) hnp
    · rw [decide_eq_true (V3.ns.mpr hw)]
      exact i_back hs1 q
  · have v2 := valid_later v hop hn
    have hval : ¬ (bestW x y z p = .pass ∧ p = true) → vV (dec (F0 x y z 0) (bestW x y z p) .fill) (dec (F0 x y z 0) (bestW x y z p) .own) (dec (F0 x y z 0) (bestW x y z p) .share) (decide ((bestW x y z p).s = ("pass" : Str))) = (vV x y z p).flip := by
      intro h
      rw [hd, ← hrb]
      unfold rbV
      rw [if_neg hn, if_neg h, flip_flip]
    rotate_left 902
    refine ⟨rfl, x, y, z, _, rfl, fun h => absurd h hn, fun _ => ?_⟩
    rotate_left 902
    refine i_same2 same3 ?_
    rotate_left 902
    · cases p
      · rotate_left 902
        refine ⟨_, rfl, (by decide : 3 ≤ 15), ?_⟩
        rotate_left 902
        refine i_turn ?_
        rotate_left 902
        refine ⟨rfl, rfl, ?_⟩
        refine i_value v2 ?_
        rotate_left 902
        rw [hval (by simp)]
        refine i_same2 sameM_str ?_
        exact i_back hs1 q
      · rotate_left 902
        have e : vV x y z true = .P := by
          rw [← hrb, Wo.sp.mp h]
          unfold rbV
          rw [Wo.sp.mp h] at hn
          rw [if_neg hn, if_pos ⟨rfl, rfl⟩]
        rw [e]
        exact i_back hs1 q
    · have hnp : bestW x y z p ≠ .pass := fun e => h (Wo.sp.mpr e)
      refine ⟨_, rfl, (by decide : 3 ≤ 15), ?_⟩
      rotate_left 902
      refine i_turn ?_
      rotate_left 902
      refine ⟨rfl, rfl, ?_⟩
      refine i_value v2 ?_
      rotate_left 902
      rw [hval (fun e => hnp e.1)]
      refine i_same2 sameM_str ?_
      exact i_back hs1 q
theorem i_reaches {x y z : Int} {p : Bool} {μ : Mu} {Q : PQ} {E : PX} (v : Valid x y z) (q : Q (.bl true) μ) : [rw3 x y z, .bl p, .str (bestW x y z p).s].length = 3 ∧ sp_reaches [rw3 x y z, .bl p, .str (bestW x y z p).s] μ Q E := ⟨rfl, x, y, z, p, rfl, v, q⟩
end K76


set_option maxRecDepth 100000
set_option maxHeartbeats 4000000
namespace K76
open PySem PySem.Spec PyProof.Rows L2 T2 K74 K73
/-- the store at a, a list at r -/
structure Tw (μ : Mu) (a r : Addr) (o : MO) (L : List D) : Prop where
  ne : r ≠ a
  h1 : μ a = some o
  h2 : μ r = some (.lst L)
theorem Tw.new {μ : Mu} {a r : Addr} {o : MO} {L : List D} (h1 : μ a = some o) (h : μ r = none) : Tw (mset μ r (.lst L)) a r o L := by
  have ne : r ≠ a := fun z => by subst z; rw [h] at h1; cases h1
  exact ⟨ne, by rw [mset_ne ne.symm]; exact h1, mset_same⟩
theorem Tw.a {μ : Mu} {a r : Addr} {o : MO} {L : List D} (T : Tw μ a r o L) (o' : MO) : Tw (mset μ a o') a r o' L := ⟨T.ne, mset_same, by rw [mset_ne T.ne]; exact T.h2⟩
theorem Tw.r {μ : Mu} {a r : Addr} {o : MO} {L : List D} (T : Tw μ a r o L) (L' : List D) : Tw (mset μ r (.lst L')) a r o L' := ⟨T.ne, by rw [mset_ne T.ne.symm]; exact T.h1, mset_same⟩
def Gd (L : List D) : Prop := ∀ d ∈ L, ∃ x y z p, d = .tup [rw3 x y z, .bl p] ∧ Valid x y z
theorem Gd.add {L : List D} {x y z : Int} {p : Bool} (h : Gd L) (v : Valid x y z) : Gd (L ++ [.tup [rw3 x y z, .bl p]]) := fun d hd => by
  rcases List.mem_append.mp hd with hd | hd
  · exact h d hd
  · rw [List.mem_singleton] at hd
    exact ⟨x, y, z, p, hd, v⟩
theorem same_gave {μ : Mu} {n : Nat} {s t : Str} : sameM μ (n + 1) (.tup [.str s, .str t]) (.tup [.str s, .str t]) = some true := sameM_tup (by decide : 2 < 1000000) fun d h => by
  simp only [List.mem_cons, List.not_mem_nil, or_false] at h
  rcases h with rfl | rfl <;> exact sameM_str
theorem same_rb {μ : Mu} {n : Nat} {w : Str} {d : D} (hd : Sc d) : sameM μ (n + 1 + 1) (.tup [.str "raised", .str "BadNumber", .tup [.str w, d], .bl true]) (.tup [.str "raised", .str "BadNumber", .tup [.str w, d], .bl true]) = some true := sameM_tup (by decide : 4 < 1000000) fun d' h => by
  simp only [List.mem_cons, List.not_mem_nil, or_false] at h
  rcases h with rfl | rfl | rfl | rfl
  · exact sameM_str
  · exact sameM_str
  · exact sameM_tup (by decide : 2 < 1000000) fun d'' h => by
      simp only [List.mem_cons, List.not_mem_nil, or_false] at h
      rcases h with rfl | rfl
      · exact sameM_str
      · exact sameM_Sc hd
  · exact sameM_bl
theorem i_best3 {x y z : Int} {μ : Mu} {Q : PQ} {E : PX} (v : Valid x y z) (q : Q (.str (bestW x y z false).s) μ) : [D.int x, .int y, .int z].length = 3 ∧ sp_m_race_best3 [.int x, .int y, .int z] μ Q E :=
  ⟨rfl, .int x, .int y, .int z, false, rfl, .inl ⟨_, rfl⟩, .inl ⟨_, rfl⟩, .inl ⟨_, rfl⟩, fun _ i j k e1 e2 e3 => by cases e1; cases e2; cases e3; exact q, fun w d h => by rw [due_valid v] at h; cases h⟩
/-! law -/
def N_law : List Str := ["_law_script", "_law_store_here", "_law_races", "_law_k", "_law_row", "_law_pair", "_law_due", "_law_odd", "_law_passed"]
def P_law : List Str := ["_law_script"]
abbrev w_law_p0 : WS := (wSeq (wIfS (wNotT (wTru (wCall 2 (sp_sameN 2) (wCons (wCall 3 sp_m_race_best3 (wCons (wOp gIx (wVar 4) (wC (.int 0))) (wCons (wOp gIx (wVar 4) (wC (.int 1))) (wCons (wOp gIx (wVar 4) (wC (.int 2))) wNil)))) (wCons (wCall 4 sp_race_best (wCons (wOp gIx (wVar 4) (wC (.int 0))) (wCons (wOp gIx (wVar 4) (wC (.int 1))) (wCons (wOp gIx (wVar 4) (wC (.int 2))) (wCons (wC (.bl false)) wNil))))) wNil))))) (wRet (wC (.bl false))) wNext)
    (wIfS (wNotT (wTru (wCall 2 (sp_sameN 2) (wCons (wCall 2 sp_best_asked (wCons (wVar 4) (wCons (wC (.bl true)) wNil))) (wCons (wTup (wCons (wC (.str "gave")) (wCons (wCall 4 sp_race_best (wCons (wOp gIx (wVar 4) (wC (.int 0))) (wCons (wOp gIx (wVar 4) (wC (.int 1))) (wCons (wOp gIx (wVar 4) (wC (.int 2))) (wCons (wC (.bl true)) wNil))))) wNil))) wNil))))) (wRet (wC (.bl false))) wNext))
abbrev w_law_p1 : WS := (wSeq (wFor (wIt (wLst (wCons (wC (.bl true)) (wCons (wC (.bl false)) wNil)))) (wgName 8) (wIfS (wAndT (wTB (wOp gIsNot (wVar 6) (wC .non))) (wNotT (wTru (wCall 2 (sp_sameN 2) (wCons (wCall 2 sp_best_asked (wCons (wVar 7) (wCons (wVar 8) wNil))) (wCons (wTup (wCons (wC (.str "raised")) (wCons (wC (.str "BadNumber")) (wCons (wVar 6) (wCons (wC (.bl true)) wNil))))) wNil)))))) (wRet (wC (.bl false))) wNext))
  (wSeq (wFor (wIt (wUn gRev (wVar 2))) (wgName 5) (wSeq (wAsg 4 (wOp gIx (wVar 5) (wC (.int 0))))
    w_law_p0))
  (wRet (wC (.bl true)))))
abbrev w_law_p2 : WS := (wSeq (wAsg 6 (wCall 4 sp_race_best (wCons (wOp gIx (wVar 4) (wC (.int 0))) (wCons (wOp gIx (wVar 4) (wC (.int 1))) (wCons (wOp gIx (wVar 4) (wC (.int 2))) (wCons (wOp gIx (wVar 5) (wC (.int 1))) wNil))))))
    (wSeq (wIfS (wNotT (wTru (wCall 2 (sp_sameN 2) (wCons (wCall 2 sp_best_asked (wCons (wVar 4) (wCons (wOp gIx (wVar 5) (wC (.int 1))) wNil))) (wCons (wTup (wCons (wC (.str "gave")) (wCons (wVar 6) wNil))) wNil))))) (wRet (wC (.bl false))) wNext)
    (wIfS (wNotT (wTru (wCall 3 sp_reaches (wCons (wVar 4) (wCons (wOp gIx (wVar 5) (wC (.int 1))) (wCons (wVar 6) wNil)))))) (wRet (wC (.bl false))) wNext)))
abbrev w_law_p3 : WS := (wSeq (wFor (wRng1 (wC (.int 5))) (wgName 3) (wSeq (wAsg 4 (wCall 2 sp_race (wCons (wVar 1) (wCons (wCall 2 sp_pick (wCons (wVar 1) (wCons (wLst (wCons (wC (.int 2)) (wCons (wC (.int 6)) (wCons (wC (.int 40)) (wCons (wC (.int 1000000)) wNil))))) wNil))) wNil))))
    (wDrop (wMt "list" gAppend (wVar 2) (wCons (wTup (wCons (wVar 4) (wCons (wCall 2 sp_chance (wCons (wVar 1) (wCons (wC (.int 2)) wNil))) wNil))) wNil)))))
  (wSeq (wFor (wIt (wVar 2)) (wgName 5) (wSeq (wAsg 4 (wOp gIx (wVar 5) (wC (.int 0))))
    w_law_p2))
  (wSeq (wAsg 7 (wCall 2 sp_bad_race (wCons (wVar 1) (wCons (wC (.int 1000000)) wNil))))
  (wSeq (wAsg 6 (wCall 4 sp_race_due (wCons (wOp gIx (wVar 7) (wC (.int 0))) (wCons (wOp gIx (wVar 7) (wC (.int 1))) (wCons (wOp gIx (wVar 7) (wC (.int 2))) (wCons (wC (.int 1000000)) wNil))))))
  w_law_p1))))
def w_law  : WS := (wSeq (wAsg 1 (wCall 1 sp_store (wCons (wVar 0) wNil)))
  (wSeq (wAsg 2 (wLstM wNil))
  w_law_p3))
def G_law : Gam := ⟨[⟨"_law_same", 2, [], false, (sp_sameN 2)⟩, ⟨"_law_race_best", 4, [], false, sp_race_best⟩, ⟨"_law_best_asked", 2, [], false, sp_best_asked⟩, ⟨"race_best", 3, [], false, sp_m_race_best3⟩, ⟨"_law_race_due", 4, [], false, sp_race_due⟩, ⟨"_law_bad_race", 2, [], false, sp_bad_race⟩, ⟨"_law_reaches", 3, [], false, sp_reaches⟩, ⟨"_law_chance", 2, [], false, sp_chance⟩, ⟨"_law_race", 2, [], false, sp_race⟩, ⟨"_law_pick", 2, [], false, sp_pick⟩, ⟨"_law_store", 1, [], true, sp_store⟩], [], [], [], []⟩
def sp_law : SpD := fun ds μ Q _ => ∃ ns : List Int, ds = [.scr (ns.map D.int)] ∧ (∀ z ∈ ns, Bd BB z) ∧ ns.length < sizeLine ∧ ∀ μ', Q (.bl true) μ'
theorem pf_law : ∀ ds μ Q E, sp_law ds μ Q E → w_law (endK Q E) (startD N_law ds) μ := by
  rintro ds μ Q E ⟨ns, rfl, hbt, hln, q⟩
  unfold w_law
  rotate_left 901
  refine ⟨rfl, ns, rfl, hbt, hln, fun a o hn ho => ?_⟩
  rotate_left 901
  intro r hr
  have T := Tw.new (L := []) mset_same hr
  generalize mset (mset μ a o) r (.lst []) = μ1 at T ⊢
  rotate_left 901
  refine ⟨_, rfl, by omega, by omega, ?_⟩
  refine forLoop_inv (fun rem ρ μ' => ∃ (i : Nat) (o : MO) (L : List D) (x3 x4 : Option D), i ≤ 5 ∧ rem = (rngD 0 5).drop i ∧ ρ = [some (.scr (ns.map D.int)), some (.raw a), some (.raw r), x3, x4, none, none, none, none] ∧ Tw μ' a r o L ∧ Gd L ∧ L.length = i ∧ StO (100 + 100 * i) o)
    (fun _ _ _ _ => trivial) ?_ ?_ _ _ _ ⟨0, o, [], none, none, Nat.zero_le _, rfl, rfl, T, fun _ h => (by cases h), rfl, ho.mono (by omega)⟩
  · rintro ρ μ' ⟨i, o, L, x3, x4, hi, e, rfl, T, hL, hl, ho⟩
    rotate_left 901
    refine Or.inl ⟨_, getS_raw T.h2, ?_⟩
    refine forLoop_inv (fun rem ρ μ2 => μ2 = μ' ∧ Gd rem ∧ ∃ x4 x5 x6, ρ = [some (.scr (ns.map D.int)), some (.raw a), some (.raw r), x3, x4, x5, x6, none, none]) (fun _ _ _ h => by rw [h.1]; exact getS_raw T.h2) ?_ ?_ _ _ _ ⟨rfl, hL, _, _, _, rfl⟩
    · rintro ρ μ2 ⟨rfl, _, x4, x5, x6, rfl⟩
      rotate_left 901
      refine ⟨rfl, a, o, _, 1000000, rfl, T.h1, ho, by omega, by decide, by decide, fun x y z o1 hx hy hz ho1 => ?_⟩
      have T := T.a o1
      generalize mset μ2 a o1 = μ3 at T ⊢
      rotate_left 901
      refine ⟨rfl, x, y, z, 1000000, rfl, hx, hy, hz, fun hd => ?_, fun w d hd => ?_⟩
      · rotate_left 901
        refine Or.inl ⟨_, rfl, ?_⟩
        rotate_left 901
        refine i_revM T.h2 ?_
        rotate_left 901
        refine Or.inl ⟨_, rfl, ?_⟩
        refine forLoop_inv (fun rem ρ μ2 => μ2 = μ3 ∧ Gd rem ∧ ∃ x3 x4 x5 x6 x7 x8, ρ = [some (.scr (ns.map D.int)), some (.raw a), some (.raw r), x3, x4, x5, x6, x7, x8]) (fun _ _ _ h => rfl) ?_ ?_ _ _ _ ⟨rfl, fun d h => hL d (List.mem_reverse.mp h), _, _, _, _, _, _, rfl⟩
        · rintro ρ μ2 ⟨rfl, _, x3, x4, x5, x6, x7, x8, rfl⟩
          rotate_left 901
          exact q _
        · rintro d ds ρ μ2 ⟨rfl, hg, x3, x4, x5, x6, x7, x8, rfl⟩ nx hnx
          obtain ⟨x, y, z, p, rfl, v⟩ := hg _ (List.mem_cons_self ..)
          rotate_left 901
          refine i_best3 v ?_
          rotate_left 901
          refine i_best ?_
          rotate_left 901
          refine i_same2 sameM_str ?_
          rotate_left 901
          refine i_asked v ?_
          rotate_left 901
          refine i_best ?_
          rotate_left 901
          refine i_same2 same_gave ?_
          rotate_left 901
          exact hnx _ _ ⟨rfl, fun d h => hg d (List.mem_cons_of_mem _ h), _, _, _, _, _, _, rfl⟩
      · have hs := due_sc hx hy hz hd
        have t : ∀ (p : Bool) (Q' : PQ) (E' : PX), Q' (.tup [.str "raised", .str "BadNumber", .tup [.str w, d], .bl true]) μ3 → [D.tup [x, y, z], .bl p].length = 2 ∧ sp_best_asked [.tup [x, y, z], .bl p] μ3 Q' E' := fun p Q' E' q' =>
          ⟨rfl, x, y, z, p, rfl, hx, hy, hz, fun i j k e1 e2 e3 h => (by rw [hd] at h; cases h), fun w' d' h => by
            rw [hd] at h
            cases h
            exact q'⟩
        rotate_left 901
        refine Or.inl ⟨_, rfl, ?_⟩
        rotate_left 901
        refine t _ _ _ ?_
        rotate_left 901
        refine i_same2 (same_rb hs) ?_
        rotate_left 901
        refine t _ _ _ ?_
        rotate_left 901
        refine i_same2 (same_rb hs) ?_
        rotate_left 901
        refine i_revM T.h2 ?_
        rotate_left 901
        refine Or.inl ⟨_, rfl, ?_⟩
        refine forLoop_inv (fun rem ρ μ2 => μ2 = μ3 ∧ Gd rem ∧ ∃ x3 x4 x5 x6 x7 x8, ρ = [some (.scr (ns.map D.int)), some (.raw a), some (.raw r), x3, x4, x5, x6, x7, x8]) (fun _ _ _ h => rfl) ?_ ?_ _ _ _ ⟨rfl, fun d h => hL d (List.mem_reverse.mp h), _, _, _, _, _, _, rfl⟩
        · rintro ρ μ2 ⟨rfl, _, x3, x4, x5, x6, x7, x8, rfl⟩
          rotate_left 901
          exact q _
        · rintro d ds ρ μ2 ⟨rfl, hg, x3, x4, x5, x6, x7, x8, rfl⟩ nx hnx
          obtain ⟨x, y, z, p, rfl, v⟩ := hg _ (List.mem_cons_self ..)
          rotate_left 901
          refine i_best3 v ?_
          rotate_left 901
          refine i_best ?_
          rotate_left 901
          refine i_same2 sameM_str ?_
          rotate_left 901
          refine i_asked v ?_
          rotate_left 901
          refine i_best ?_
          rotate_left 901
          refine i_same2 same_gave ?_
          rotate_left 901
          exact hnx _ _ ⟨rfl, fun d h => hg d (List.mem_cons_of_mem _ h), _, _, _, _, _, _, rfl⟩
    · rintro d ds ρ μ2 ⟨rfl, hg, x4, x5, x6, rfl⟩ nx hnx
      obtain ⟨x, y, z, p, rfl, v⟩ := hg _ (List.mem_cons_self ..)
      rotate_left 901
      refine i_best ?_
      rotate_left 901
      refine i_asked v ?_
      rotate_left 901
      refine i_same2 same_gave ?_
      rotate_left 901
      refine i_reaches v ?_
      rotate_left 901
      exact hnx _ _ ⟨rfl, fun d h => hg d (List.mem_cons_of_mem _ h), _, _, _, rfl⟩
  · rintro d ds ρ μ' ⟨i, o, L, x3, x4, hi, e, rfl, T, hL, hl, ho⟩ nx hnx
    obtain ⟨hi2, rfl, rfl⟩ := rng_cons e
    rotate_left 901
    refine i_pick T.h1 ho (by omega) rfl (fun _ => rfl) (by decide : 4 < 1000000000) (by simp) fun d hd o1 ho1 => ?_
    have T := T.a o1
    generalize mset μ' a o1 = μ3 at T ⊢
    obtain ⟨hi, rfl, hi1, hi2⟩ : ∃ n, d = D.int n ∧ 1 ≤ n ∧ n ≤ 1000000 := by
      simp only [List.mem_cons, List.not_mem_nil, or_false] at hd
      rcases hd with rfl | rfl | rfl | rfl <;> exact ⟨_, rfl, by decide, by decide⟩
    rotate_left 901
    refine i_race T.h1 ho1 (by omega) hi1 hi2 fun x y z o2 v ho2 => ?_
    have T := T.a o2
    generalize mset μ3 a o2 = μ4 at T ⊢
    rotate_left 901
    refine ⟨tymL T.h2, ?_⟩
    rotate_left 901
    refine i_chance T.h1 ho2 (by omega) (by decide) fun k o3 ho3 => ?_
    have T := T.a o3
    generalize mset μ4 a o3 = μ5 at T ⊢
    rotate_left 901
    refine i_app T.h2 (by rw [hl]; exact Nat.lt_of_le_of_lt (show i ≤ 5 by omega) (by decide)) ?_
    rotate_left 901
    exact hnx _ _ ⟨i + 1, o3, _, _, _, by omega, rfl, rfl, T.r _, hL.add v, by rw [List.length_append, hl]; rfl, ho3.mono (by omega)⟩
end K76


set_option maxRecDepth 100000
set_option maxHeartbeats 4000000
namespace K77
open PySem PySem.Spec PyProof.Rows L2 T2 K74 K73 K76
structure Stp where
  x : Int
  y : Int
  z : Int
  p : Bool
  w : Wo
def go : Nat → Int → Int → Int → Bool → List Stp × V3
  | 0, _, _, _, _ => ([], .P)
  | n + 1, x, y, z, p =>
    if bestW x y z p = .pass ∧ p = true then ([⟨x, y, z, p, bestW x y z p⟩], .P)
    else if dec (F0 x y z 0) (bestW x y z p) .fill + dec (F0 x y z 0) (bestW x y z p) .share = 0 then ([⟨x, y, z, p, bestW x y z p⟩], .W)
    else (⟨x, y, z, p, bestW x y z p⟩ :: (go n (dec (F0 x y z 0) (bestW x y z p) .fill) (dec (F0 x y z 0) (bestW x y z p) .own) (dec (F0 x y z 0) (bestW x y z p) .share) (decide (bestW x y z p = .pass))).1,
      (go n (dec (F0 x y z 0) (bestW x y z p) .fill) (dec (F0 x y z 0) (bestW x y z p) .own) (dec (F0 x y z 0) (bestW x y z p) .share) (decide (bestW x y z p = .pass))).2.flip)
def lft (x y z : Int) (p : Bool) : Int := 2 * (x + y + z) + (if p = true then 0 else 1)
theorem lft_two {x y z : Int} {p : Bool} (v : Valid x y z) : 2 ≤ lft x y z p := by
  unfold Valid at v
  unfold lft
  split <;> omega
theorem lft_next {x y z : Int} {p : Bool} {w : Wo} (h : ¬ (w = .pass ∧ p = true)) : lft (dec (F0 x y z 0) w .fill) (dec (F0 x y z 0) w .own) (dec (F0 x y z 0) w .share) (decide (w = .pass)) + 1 ≤ lft x y z p := by
  unfold lft
  cases w <;> cases p <;> simp [dec, F0] at h ⊢ <;> omega
theorem pass_peace {x y z : Int} {p : Bool} (v : Valid x y z) (h : bestW x y z p = .pass ∧ p = true) : vV x y z p = .P := by
  obtain ⟨hop, hrb⟩ := bestW_ok p v
  rw [← hrb]
  unfold rbV
  rw [if_neg, if_pos h]
  rw [h.1]
  unfold Valid at v
  simp [dec, F0]
  omega
theorem take_wins {x y z : Int} {p : Bool} (v : Valid x y z) (h : dec (F0 x y z 0) (bestW x y z p) .fill + dec (F0 x y z 0) (bestW x y z p) .share = 0) : vV x y z p = .W := by
  obtain ⟨hop, hrb⟩ := bestW_ok p v
  rw [← hrb]
  unfold rbV
  rw [if_pos h]
theorem flip_flip {a : V3} : a.flip.flip = a := by cases a <;> rfl
theorem next_val {x y z : Int} {p : Bool} (v : Valid x y z) (h1 : ¬ (bestW x y z p = .pass ∧ p = true)) (h2 : ¬ dec (F0 x y z 0) (bestW x y z p) .fill + dec (F0 x y z 0) (bestW x y z p) .share = 0) :
    vV (dec (F0 x y z 0) (bestW x y z p) .fill) (dec (F0 x y z 0) (bestW x y z p) .own) (dec (F0 x y z 0) (bestW x y z p) .share) (decide (bestW x y z p = .pass)) = (vV x y z p).flip := by
  obtain ⟨hop, hrb⟩ := bestW_ok p v
  rw [← hrb]
  unfold rbV
  rw [if_neg h2, if_neg h1, flip_flip]
theorem go_val : ∀ (n : Nat) {x y z : Int} {p : Bool}, Valid x y z → lft x y z p ≤ n + 1 → (go n x y z p).2 = vV x y z p
  | 0, x, y, z, p, v, h => by have := lft_two (p := p) v; omega
  | n + 1, x, y, z, p, v, h => by
    unfold go
    by_cases h1 : bestW x y z p = .pass ∧ p = true
    · rw [if_pos h1, pass_peace v h1]
    · rw [if_neg h1]
      by_cases h2 : dec (F0 x y z 0) (bestW x y z p) .fill + dec (F0 x y z 0) (bestW x y z p) .share = 0
      · rw [if_pos h2, take_wins v h2]
      · rw [if_neg h2]
        have l := lft_next (x := x) (y := y) (z := z) h1
        show (go n _ _ _ _).2.flip = _
        rw [go_val n (valid_later v (bestW_ok p v).1 h2) (by omega), next_val v h1 h2, flip_flip]
theorem go_all : ∀ (n : Nat) {x y z : Int} {p : Bool}, Valid x y z → lft x y z p ≤ n + 1 → ∀ (k : Nat) (s : Stp), (go n x y z p).1[k]? = some s →
    Valid s.x s.y s.z ∧ s.w = bestW s.x s.y s.z s.p ∧ vV s.x s.y s.z s.p = if k % 2 = 0 then vV x y z p else (vV x y z p).flip
  | 0, x, y, z, p, v, h, k, s, e => by have := lft_two (p := p) v; omega
  | n + 1, x, y, z, p, v, h, k, s, e => by
    have one : ∀ {k : Nat} {s t : Stp}, [t][k]? = some s → k = 0 ∧ s = t := fun {k s t} e => by
      cases k with
      | zero => exact ⟨rfl, (Option.some.inj e).symm⟩
      | succ k => simp at e
    unfold go at e
    by_cases h1 : bestW x y z p = .pass ∧ p = true
    · rw [if_pos h1] at e
      obtain ⟨rfl, rfl⟩ := one e
      exact ⟨v, rfl, rfl⟩
    · rw [if_neg h1] at e
      by_cases h2 : dec (F0 x y z 0) (bestW x y z p) .fill + dec (F0 x y z 0) (bestW x y z p) .share = 0
      · rw [if_pos h2] at e
        obtain ⟨rfl, rfl⟩ := one e
        exact ⟨v, rfl, rfl⟩
      · rw [if_neg h2] at e
        have l := lft_next (x := x) (y := y) (z := z) h1
        cases k with
        | zero =>
          cases e
          exact ⟨v, rfl, rfl⟩
        | succ k =>
          obtain ⟨g1, g2, g3⟩ := go_all n (valid_later v (bestW_ok p v).1 h2) (by omega) k s e
          refine ⟨g1, g2, ?_⟩
          rw [g3, next_val v h1 h2, flip_flip]
          by_cases hk : k % 2 = 0
          · rw [if_pos hk, if_neg (by omega)]
          · rw [if_neg hk, if_pos (by omega)]
theorem go_len : ∀ (n : Nat) {x y z : Int} {p : Bool}, (go n x y z p).1.length ≤ n
  | 0, x, y, z, p => Nat.le_refl _
  | n + 1, x, y, z, p => by
    unfold go
    split
    · simp
    · split
      · simp
      · have := @go_len n
        simp only [List.length_cons]
        exact Nat.succ_le_succ this
def fuel (x y z : Int) : Nat := (2 * (x + y + z)).toNat
def stps (x y z : Int) : List Stp := (go (fuel x y z) x y z false).1
def dl (x y z : Int) : List D := (stps x y z).map fun s => D.str s.w.s
theorem fuel_ok {x y z : Int} (v : Valid x y z) : lft x y z false ≤ fuel x y z + 1 := by
  unfold Valid at v
  unfold lft fuel
  simp
  omega
/-- the rest of the way -/
structure Rst (x0 y0 z0 : Int) (dn : List Stp) (m : Nat) (x y z : Int) (p fm : Bool) : Prop where
  v : Valid x y z
  l : lft x y z p ≤ m + 1
  e1 : stps x0 y0 z0 = dn ++ (go m x y z p).1
  e2 : vV x0 y0 z0 false = if fm = true then vV x y z p else (vV x y z p).flip
  e3 : dn.length + m = fuel x0 y0 z0
theorem Rst.zero {x0 y0 z0 : Int} {dn : List Stp} {x y z : Int} {p fm : Bool} (r : Rst x0 y0 z0 dn 0 x y z p fm) : False := by
  have := lft_two (p := p) r.v
  have := r.l
  omega
theorem Rst.start {x y z : Int} (v : Valid x y z) : Rst x y z [] (fuel x y z) x y z false true := ⟨v, fuel_ok v, rfl, rfl, by simp⟩
theorem Rst.peace {x0 y0 z0 : Int} {dn : List Stp} {m : Nat} {x y z : Int} {p fm : Bool} (r : Rst x0 y0 z0 dn (m + 1) x y z p fm) (h1 : bestW x y z p = .pass ∧ p = true) : stps x0 y0 z0 = dn ++ [⟨x, y, z, p, bestW x y z p⟩] ∧ vV x0 y0 z0 false = .P := by
  refine ⟨?_, ?_⟩
  · rw [r.e1]; unfold go; rw [if_pos h1]
  · rw [r.e2, pass_peace r.v h1]; cases fm <;> rfl
theorem Rst.take {x0 y0 z0 : Int} {dn : List Stp} {m : Nat} {x y z : Int} {p fm : Bool} (r : Rst x0 y0 z0 dn (m + 1) x y z p fm) (h1 : ¬ (bestW x y z p = .pass ∧ p = true)) (h2 : dec (F0 x y z 0) (bestW x y z p) .fill + dec (F0 x y z 0) (bestW x y z p) .share = 0) :
    stps x0 y0 z0 = dn ++ [⟨x, y, z, p, bestW x y z p⟩] ∧ vV x0 y0 z0 false = if fm = true then .W else .L := by
  refine ⟨?_, ?_⟩
  · rw [r.e1]; unfold go; rw [if_neg h1, if_pos h2]
  · rw [r.e2, take_wins r.v h2]; cases fm <;> rfl
theorem Rst.next {x0 y0 z0 : Int} {dn : List Stp} {m : Nat} {x y z : Int} {p fm : Bool} (r : Rst x0 y0 z0 dn (m + 1) x y z p fm) (h1 : ¬ (bestW x y z p = .pass ∧ p = true)) (h2 : ¬ dec (F0 x y z 0) (bestW x y z p) .fill + dec (F0 x y z 0) (bestW x y z p) .share = 0) :
    Rst x0 y0 z0 (dn ++ [⟨x, y, z, p, bestW x y z p⟩]) m (dec (F0 x y z 0) (bestW x y z p) .fill) (dec (F0 x y z 0) (bestW x y z p) .own) (dec (F0 x y z 0) (bestW x y z p) .share) (decide (bestW x y z p = .pass)) (!fm) := by
  have l := lft_next (x := x) (y := y) (z := z) h1
  have := r.l
  refine ⟨valid_later r.v (bestW_ok p r.v).1 h2, by omega, ?_, ?_, ?_⟩
  · have e := r.e1
    unfold go at e
    rw [if_neg h1, if_neg h2] at e
    rw [e, List.append_assoc]
    rfl
  · rw [r.e2, next_val r.v h1 h2, flip_flip]; cases fm <;> rfl
  · have := r.e3; rw [List.length_append, List.length_singleton]; omega
/-! race_line -/
def N_m_race_line : List Str := ["own", "other", "shared", "deeds", "first_moves", "after_pass", "deed", "after"]
def P_m_race_line : List Str := ["own", "other", "shared"]
abbrev w_m_race_line_p0 : WS := (wSeq (wIfS (wAndT (wTB (wOp gEq (wVar 6) (wC (.str "pass")))) (wTru (wVar 5))) (wRet (wTup (wCons (wVar 3) (wCons (wC (.str "peace")) wNil)))) wNext)
    (wSeq (wAsg 7 (wCall 4 sp_m_race_step (wCons (wVar 0) (wCons (wVar 1) (wCons (wVar 2) (wCons (wVar 6) wNil))))))
    (wSeq (wIfS (wTB (wOp gIs (wVar 7) (wC .non))) (wRet (wTup (wCons (wVar 3) (wCons (wIf (wTru (wVar 4)) (wC (.str "wins")) (wC (.str "loses"))) wNil)))) wNext)
    (wSeq (wAsgG (wgT [0, 1, 2]) (wVar 7))
    (wSeq (wAsg 5 (wOp gEq (wVar 6) (wC (.str "pass"))))
    (wAsg 4 (wNot (wVar 4))))))))
def w_m_race_line  : WS := (wSeq (wDrop (wCall 4 sp_m_check_race (wCons (wVar 0) (wCons (wVar 1) (wCons (wVar 2) (wCons (wC (.int 30)) wNil))))))
  (wSeq (wAsg 3 (wLstM wNil))
  (wSeq (wAsg 4 (wC (.bl true)))
  (wSeq (wAsg 5 (wC (.bl false)))
  (wWhile (wTru (wC (.bl true))) (wSeq (wAsg 6 (wCall 4 sp_m_best_by_rule (wCons (wVar 0) (wCons (wVar 1) (wCons (wVar 2) (wCons (wVar 5) wNil))))))
    (wSeq (wDrop (wMt "list" gAppend (wVar 3) (wCons (wVar 6) wNil)))
    w_m_race_line_p0)))))))
def G_m_race_line : Gam := ⟨[⟨"race_step", 4, [], false, sp_m_race_step⟩, ⟨"best_by_rule", 4, [], false, sp_m_best_by_rule⟩, ⟨"check_race", 4, [], false, sp_m_check_race⟩], [("STAY", (.str "pass")), ("WINS", (.str "wins")), ("LOSES", (.str "loses")), ("PEACE", (.str "peace")), ("MOST_LINE", (.int 30))], [], [], []⟩
def sp_m_race_line : SpD := fun ds μ Q E => ∃ x y z, ds = [x, y, z] ∧ Sc x ∧ Sc y ∧ Sc z ∧ outc (due 30 x y z) (∀ i j k a, x = .int i → y = .int j → z = .int k → Valid i j k → μ a = none → Q (.tup [.raw a, .str (vV i j k false).s]) (mset μ a (.lst (dl i j k)))) E μ
theorem pf_m_race_line : ∀ ds μ Q E, sp_m_race_line ds μ Q E → w_m_race_line (endK Q E) (startD N_m_race_line ds) μ := by
  rintro ds μ Q E ⟨x, y, z, rfl, hx, hy, hz, q1, q2⟩
  unfold w_m_race_line
  rotate_left 901
  refine ⟨rfl, x, y, z, _, rfl, hx, hy, hz, fun h => ?_, q2⟩
  obtain ⟨i, j, k, rfl, rfl, rfl, b1, b2, b3, b4, b5, b6, b7, b8⟩ := due_none h
  have v : Valid i j k := ⟨b1, by omega, b3, by omega, b5, by omega, b7, b8⟩
  have hf : fuel i j k ≤ 180 := by unfold fuel; omega
  rotate_left 901
  intro a ha
  rotate_left 901
  have q := q1 h i j k a rfl rfl rfl v ha
  refine ⟨fun m ρ μ' => ∃ x y z p fm dn x6 x7, ρ = [some (.int x), some (.int y), some (.int z), some (.raw a), some (.bl fm), some (.bl p), x6, x7] ∧ μ' = mset μ a (.lst (dn.map fun s : Stp => D.str s.w.s)) ∧ Rst i j k dn m x y z p fm,
    ⟨fuel i j k, i, j, k, false, true, [], none, none, rfl, rfl, .start v⟩, ?_⟩
  rintro m ρ μ' ⟨x, y, z, p, fm, dn, x6, x7, rfl, rfl, r⟩
  cases m with
  | zero => exact r.zero.elim
  | succ m =>
    rotate_left 901
    refine ⟨rfl, x, y, z, p, rfl, ?_⟩
    rotate_left 901
    refine ⟨tymL mset_same, ?_⟩
    rotate_left 901
    have := r.e3
    refine i_app mset_same (by rw [List.length_map]; exact Nat.lt_of_le_of_lt (show dn.length ≤ 180 by omega) (by decide)) ?_
    rw [mset_mset]
    have ed : ∀ s : Stp, (dn.map fun s : Stp => D.str s.w.s) ++ [D.str s.w.s] = (dn ++ [s]).map fun s : Stp => D.str s.w.s := fun s => by rw [List.map_append]; rfl
    have edr := ed ⟨x, y, z, p, bestW x y z p⟩
    have hd : decide ((bestW x y z p).s = ("pass" : Str)) = decide (bestW x y z p = .pass) := Wo.eqs _ .pass
    have rest : ¬ (bestW x y z p = .pass ∧ p = true) → ∀ (I : Nat → T2.Env → Mu → Prop), True := fun _ _ => trivial
    by_cases h1 : bestW x y z p = .pass ∧ p = true
    · obtain ⟨g1, g2⟩ := r.peace h1
      have g1 : dl i j k = _ := congrArg (List.map fun s : Stp => D.str s.w.s) g1
      rw [g1, g2, ← edr] at q
      obtain ⟨g3, rfl⟩ := h1
      rotate_left 901
      · exact q
      · exact absurd (Wo.sp.mpr g3) h
    · by_cases h2 : dec (F0 x y z 0) (bestW x y z p) .fill + dec (F0 x y z 0) (bestW x y z p) .share = 0
      · obtain ⟨g1, g2⟩ := r.take h1 h2
        have g1 : dl i j k = _ := congrArg (List.map fun s : Stp => D.str s.w.s) g1
        rw [g1, g2, ← edr] at q
        have step : ∀ (Q' : PQ), Q' .non (mset μ a (.lst ((dn.map fun s : Stp => D.str s.w.s) ++ [D.str (bestW x y z p).s]))) → [D.int x, .int y, .int z, .str (bestW x y z p).s].length = 4 ∧ sp_m_race_step [.int x, .int y, .int z, .str (bestW x y z p).s] (mset μ a (.lst ((dn.map fun s : Stp => D.str s.w.s) ++ [D.str (bestW x y z p).s]))) Q' E := fun Q' q' => ⟨rfl, x, y, z, _, rfl, fun _ => q', fun h => absurd h2 h⟩
        rotate_left 901
        · cases p
          · rotate_left 901
            refine step _ ?_
            rotate_left 901
            cases fm <;> (rotate_left 901; exact q)
          · exact absurd ⟨Wo.sp.mp h, rfl⟩ h1
        · refine step _ ?_
          rotate_left 901
          cases fm <;> (rotate_left 901; exact q)
      · have rn := r.next h1 h2
        have step : ∀ (Q' : PQ), Q' (rw3 (dec (F0 x y z 0) (bestW x y z p) .fill) (dec (F0 x y z 0) (bestW x y z p) .own) (dec (F0 x y z 0) (bestW x y z p) .share)) (mset μ a (.lst ((dn.map fun s : Stp => D.str s.w.s) ++ [D.str (bestW x y z p).s]))) → [D.int x, .int y, .int z, .str (bestW x y z p).s].length = 4 ∧ sp_m_race_step [.int x, .int y, .int z, .str (bestW x y z p).s] (mset μ a (.lst ((dn.map fun s : Stp => D.str s.w.s) ++ [D.str (bestW x y z p).s]))) Q' E := fun Q' q' => ⟨rfl, x, y, z, _, rfl, fun h => absurd h h2, fun _ => q'⟩
        rotate_left 901
        · cases p
          · rotate_left 901
            refine step _ ?_
            rotate_left 901
            exact ⟨m, Nat.lt_succ_self _, _, _, _, _, !fm, _, _, _, rfl, by rw [edr], by rw [hd]; exact rn⟩
          · exact absurd ⟨Wo.sp.mp h, rfl⟩ h1
        · refine step _ ?_
          rotate_left 901
          exact ⟨m, Nat.lt_succ_self _, _, _, _, _, !fm, _, _, _, rfl, by rw [edr], by rw [hd]; exact rn⟩
end K77


set_option maxRecDepth 100000
set_option maxHeartbeats 4000000
namespace K77
open PySem PySem.Spec PyProof.Rows L2 T2 K74 K73 K76
/-! _law_line_asked -/
def N_line_asked : List Str := ["_law_row", "e", "_law_alone", "_law_good"]
def P_line_asked : List Str := ["_law_row"]
def w_line_asked  : WS := (wTry isX_BadNumber 1 (wRet (wTup (wCons (wC (.str "gave")) (wCons (wCall 3 sp_m_race_line (wCons (wOp gIx (wVar 0) (wC (.int 0))) (wCons (wOp gIx (wVar 0) (wC (.int 1))) (wCons (wOp gIx (wVar 0) (wC (.int 2))) wNil)))) wNil)))) fun a ca dx => (wSeq (wAsg 2 (wAnd (wNot (wXi a ca dx (isX_NoEntry) (wVar 1))) (wAnd (wNot (wXi a ca dx (isX_TooMany) (wVar 1))) (wNot (wXi a ca dx (isX_BadName) (wVar 1))))))
    (wSeq (wAsg 3 (wAnd (wXi a ca dx (isX_TworoomsError) (wVar 1)) (wXi a ca dx (isX_ValueError) (wVar 1))))
    (wRet (wTup (wCons (wC (.str "raised")) (wCons (wC (.str "BadNumber")) (wCons (wTup (wCons (wXf a ca dx "what" (wVar 1)) (wCons (wXf a ca dx "value" (wVar 1)) wNil))) (wCons (wAnd (wVar 2) (wVar 3)) wNil)))))))))
def G_line_asked : Gam := ⟨[⟨"race_line", 3, [], false, sp_m_race_line⟩], [], [], [("BadNumber", isX_BadNumber), ("ValueError", isX_ValueError), ("TworoomsError", isX_TworoomsError), ("BadName", isX_BadName), ("TooMany", isX_TooMany), ("NoEntry", isX_NoEntry)], ["value", "what"]⟩
def sp_line_asked : SpD := fun ds μ Q _ => ∃ x y z, ds = [.tup [x, y, z]] ∧ Sc x ∧ Sc y ∧ Sc z ∧ (∀ i j k a, x = .int i → y = .int j → z = .int k → due 30 x y z = none → Valid i j k → μ a = none → Q (.tup [.str "gave", .tup [.raw a, .str (vV i j k false).s]]) (mset μ a (.lst (dl i j k)))) ∧
  (∀ w d, due 30 x y z = some (w, d) → Q (.tup [.str "raised", .str "BadNumber", .tup [.str w, d], .bl true]) μ)
theorem pf_line_asked : ∀ ds μ Q E, sp_line_asked ds μ Q E → w_line_asked (endK Q E) (startD N_line_asked ds) μ := by
  rintro ds μ Q E ⟨x, y, z, rfl, hx, hy, hz, q1, q2⟩
  unfold w_line_asked
  rotate_left 901
  refine ⟨rfl, x, y, z, rfl, hx, hy, hz, fun h i j k a e1 e2 e3 v ha => ?_, fun w d h => ?_⟩
  · rotate_left 901
    exact q1 i j k a e1 e2 e3 h v ha
  · rotate_left 901
    intro a ca dx
    rotate_left 901
    exact q2 w d h
theorem par (c : Nat) : decide ((c + 1) % 2 = 0) = !decide (c % 2 = 0) := by
  by_cases h : c % 2 = 0
  · rw [decide_eq_true h, decide_eq_false (by omega)]; rfl
  · rw [decide_eq_false h, decide_eq_true (by omega)]; rfl
def stD (s : Stp) : D := .tup [rw3 s.x s.y s.z, .bl s.p, .str s.w.s]
/-! _law_walk_of -/
def N_walk_of : List Str := ["_law_row", "_law_many", "_law_steps", "_law_passed", "_law_k", "_law_deed"]
def P_walk_of : List Str := ["_law_row", "_law_many"]
abbrev w_walk_of_p0 : WS := (wSeq (wIfS (wAndT (wTB (wOp gEq (wVar 5) (wC (.str "pass")))) (wTru (wVar 3))) (wRet (wTup (wCons (wVar 2) (wCons (wC (.str "peace")) wNil)))) wNext)
    (wSeq (wAsg 0 (wCall 4 sp_race_after (wCons (wOp gIx (wVar 0) (wC (.int 0))) (wCons (wOp gIx (wVar 0) (wC (.int 1))) (wCons (wOp gIx (wVar 0) (wC (.int 2))) (wCons (wVar 5) wNil))))))
    (wSeq (wIfS (wTB (wOp gIs (wVar 0) (wC .non))) (wRet (wTup (wCons (wVar 2) (wCons (wOp gIx (wLst (wCons (wC (.str "wins")) (wCons (wC (.str "loses")) wNil))) (wOp gMod (wVar 4) (wC (.int 2)))) wNil)))) wNext)
    (wAsg 3 (wOp gEq (wVar 5) (wC (.str "pass")))))))
def w_walk_of  : WS := (wSeq (wAsg 2 (wLstM wNil))
  (wSeq (wAsg 3 (wC (.bl false)))
  (wSeq (wFor (wRng1 (wVar 1)) (wgName 4) (wSeq (wAsg 5 (wCall 4 sp_race_best (wCons (wOp gIx (wVar 0) (wC (.int 0))) (wCons (wOp gIx (wVar 0) (wC (.int 1))) (wCons (wOp gIx (wVar 0) (wC (.int 2))) (wCons (wVar 3) wNil))))))
    (wSeq (wDrop (wMt "list" gAppend (wVar 2) (wCons (wTup (wCons (wVar 0) (wCons (wVar 3) (wCons (wVar 5) wNil)))) wNil)))
    w_walk_of_p0)))
  (wRet (wTup (wCons (wVar 2) (wCons (wC .non) wNil)))))))
def G_walk_of : Gam := ⟨[⟨"_law_race_after", 4, [], false, sp_race_after⟩, ⟨"_law_race_best", 4, [], false, sp_race_best⟩], [], [], [], []⟩
def sp_walk_of : SpD := fun ds μ Q _ => ∃ x y z n, ds = [rw3 x y z, .int n] ∧ Valid x y z ∧ n = 2 * (x + y + z) ∧ fuel x y z ≤ 1000 ∧ ∀ a, μ a = none → Q (.tup [.raw a, .str (vV x y z false).s]) (mset μ a (.lst ((stps x y z).map stD)))
theorem pf_walk_of : ∀ ds μ Q E, sp_walk_of ds μ Q E → w_walk_of (endK Q E) (startD N_walk_of ds) μ := by
  rintro ds μ Q E ⟨i, j, k, n, rfl, v, hn, hf, q⟩
  have hn2 : n.toNat = fuel i j k := by rw [hn]; rfl
  have hn3 : 0 ≤ n := by unfold Valid at v; omega
  unfold w_walk_of
  rotate_left 901
  intro a ha
  rotate_left 901
  have q := q a ha
  have hn4 : n = (fuel i j k : Int) := by omega
  refine ⟨n, rfl, by omega, by omega, ?_⟩
  rw [hn2]
  refine forLoop_inv (fun rem ρ μ' => ∃ (c : Nat) (x y z : Int) (p : Bool) (dn : List Stp) (m : Nat) (x4 x5 : Option D), c + m = fuel i j k ∧ rem = (rngD 0 (fuel i j k)).drop c ∧ ρ = [some (rw3 x y z), some (.int n), some (.raw a), some (.bl p), x4, x5] ∧ μ' = mset μ a (.lst (dn.map stD)) ∧ Rst i j k dn m x y z p (decide (c % 2 = 0)))
    (fun _ _ _ _ => trivial) ?_ ?_ _ _ _ ⟨0, i, j, k, false, [], fuel i j k, none, none, by omega, rfl, rfl, rfl, .start v⟩
  · rintro ρ μ' ⟨c, x, y, z, p, dn, m, x4, x5, hc, e, rfl, rfl, r⟩
    have := rng_nil e
    have hm : m = 0 := by omega
    subst hm
    exact r.zero.elim
  · rintro d ds ρ μ' ⟨c, x, y, z, p, dn, m, x4, x5, hc, e, rfl, rfl, r⟩ nx hnx
    obtain ⟨hi2, rfl, rfl⟩ := rng_cons e
    cases m with
    | zero => exact r.zero.elim
    | succ m =>
      rotate_left 901
      refine i_best ?_
      rotate_left 901
      refine ⟨tymL mset_same, ?_⟩
      rotate_left 901
      have := r.e3
      refine i_app mset_same (by rw [List.length_map]; exact Nat.lt_of_le_of_lt (show dn.length ≤ 1000 by omega) (by decide)) ?_
      rw [mset_mset]
      have edr : dn.map stD ++ [D.tup [rw3 x y z, .bl p, .str (bestW x y z p).s]] = (dn ++ [Stp.mk x y z p (bestW x y z p)]).map stD := by rw [List.map_append]; rfl
      rw [edr]
      have hd : decide ((bestW x y z p).s = ("pass" : Str)) = decide (bestW x y z p = .pass) := Wo.eqs _ .pass
      have after : ∀ (Q' : PQ) (E' : PX) (μ' : Mu), (dec (F0 x y z 0) (bestW x y z p) .fill + dec (F0 x y z 0) (bestW x y z p) .share = 0 → Q' .non μ') →
        (dec (F0 x y z 0) (bestW x y z p) .fill + dec (F0 x y z 0) (bestW x y z p) .share ≠ 0 → Q' (rw3 (dec (F0 x y z 0) (bestW x y z p) .fill) (dec (F0 x y z 0) (bestW x y z p) .own) (dec (F0 x y z 0) (bestW x y z p) .share)) μ') →
        [D.int x, .int y, .int z, .str (bestW x y z p).s].length = 4 ∧ sp_race_after [.int x, .int y, .int z, .str (bestW x y z p).s] μ' Q' E' := fun Q' E' μ' q1 q2 => ⟨rfl, x, y, z, _, rfl, q1, q2⟩
      by_cases h1 : bestW x y z p = .pass ∧ p = true
      · obtain ⟨g1, g2⟩ := r.peace h1
        rw [g1, g2] at q
        obtain ⟨g3, rfl⟩ := h1
        rotate_left 901
        · exact q
        · exact absurd (Wo.sp.mpr g3) h
      · rotate_left 901
        · cases p
          · rotate_left 901
            refine after _ _ _ (fun h2 => ?_) fun h2 => ?_
            · obtain ⟨g1, g2⟩ := r.take h1 h2
              rw [g1, g2] at q
              rotate_left 901
              refine i_modI (by decide) ?_
              by_cases hc2 : c % 2 = 0
              · rw [if_pos (decide_eq_true hc2)] at q
                rw [show (0 + (c : Int)) % 2 = 0 by omega]
                rotate_left 901
                exact q
              · rw [if_neg (fun e => hc2 (of_decide_eq_true e))] at q
                rw [show (0 + (c : Int)) % 2 = 1 by omega]
                rotate_left 901
                exact q
            · have rn := r.next h1 h2
              rotate_left 901
              exact hnx _ _ ⟨c + 1, _, _, _, _, _, m, _, _, by omega, rfl, rfl, rfl, by rw [hd, par]; exact rn⟩
          · exact absurd ⟨Wo.sp.mp h, rfl⟩ h1
        · refine after _ _ _ (fun h2 => ?_) fun h2 => ?_
          · obtain ⟨g1, g2⟩ := r.take h1 h2
            rw [g1, g2] at q
            rotate_left 901
            refine i_modI (by decide) ?_
            by_cases hc2 : c % 2 = 0
            · rw [if_pos (decide_eq_true hc2)] at q
              rw [show (0 + (c : Int)) % 2 = 0 by omega]
              rotate_left 901
              exact q
            · rw [if_neg (fun e => hc2 (of_decide_eq_true e))] at q
              rw [show (0 + (c : Int)) % 2 = 1 by omega]
              rotate_left 901
              exact q
          · have rn := r.next h1 h2
            rotate_left 901
            exact hnx _ _ ⟨c + 1, _, _, _, _, _, m, _, _, by omega, rfl, rfl, rfl, by rw [hd, par]; exact rn⟩
/-! _law_walk_agrees -/
def N_walk_agrees : List Str := ["_law_walk", "_law_turned", "_law_k", "_law_row", "_law_passed"]
def P_walk_agrees : List Str := ["_law_walk"]
abbrev w_walk_agrees_p0 : WS := (wSeq (wIfS (wNotT (wTru (wCall 2 (sp_sameN 3) (wCons (wCallK 3 1 sp_m_race_best (wCons (wOp gIx (wVar 3) (wC (.int 0))) (wCons (wOp gIx (wVar 3) (wC (.int 1))) (wCons (wOp gIx (wVar 3) (wC (.int 2))) wNil))) (wCons (wVar 4) wNil)) (wCons (wOp gIx (wOp gIx (wOp gIx (wVar 0) (wC (.int 0))) (wVar 2)) (wC (.int 2))) wNil))))) (wRet (wC (.bl false))) wNext)
    (wIfS (wNotT (wTru (wCall 2 (sp_sameN 3) (wCons (wCallK 3 1 sp_m_race_value (wCons (wOp gIx (wVar 3) (wC (.int 0))) (wCons (wOp gIx (wVar 3) (wC (.int 1))) (wCons (wOp gIx (wVar 3) (wC (.int 2))) wNil))) (wCons (wVar 4) wNil)) (wCons (wOp gIx (wLst (wCons (wOp gIx (wVar 0) (wC (.int 1))) (wCons (wVar 1) wNil))) (wOp gMod (wVar 2) (wC (.int 2)))) wNil))))) (wRet (wC (.bl false))) wNext))
def w_walk_agrees  : WS := (wSeq (wAsg 1 (wOp gIx (wDict [((wC (.str "wins")), (wC (.str "loses"))), ((wC (.str "loses")), (wC (.str "wins"))), ((wC (.str "peace")), (wC (.str "peace")))]) (wOp gIx (wVar 0) (wC (.int 1)))))
  (wSeq (wFor (wRng1 (wCB gLen (wCons (wOp gIx (wVar 0) (wC (.int 0))) wNil))) (wgName 2) (wSeq (wAsg 3 (wOp gIx (wOp gIx (wOp gIx (wVar 0) (wC (.int 0))) (wVar 2)) (wC (.int 0))))
    (wSeq (wAsg 4 (wOp gIx (wOp gIx (wOp gIx (wVar 0) (wC (.int 0))) (wVar 2)) (wC (.int 1))))
    w_walk_agrees_p0)))
  (wRet (wC (.bl true)))))
def G_walk_agrees : Gam := ⟨[⟨"_law_same", 2, [], false, (sp_sameN 3)⟩, ⟨"race_value", 3, ["after_pass"], false, sp_m_race_value⟩, ⟨"race_best", 3, ["after_pass"], false, sp_m_race_best⟩], [], [], [], []⟩
def sp_walk_agrees : SpD := fun ds μ Q _ => ∃ (a : Addr) (R : V3) (L : List Stp), ds = [.tup [.raw a, .str R.s]] ∧ μ a = some (.lst (L.map stD)) ∧ L.length ≤ 1000 ∧
  (∀ (k : Nat) (s : Stp), L[k]? = some s → Valid s.x s.y s.z ∧ s.w = bestW s.x s.y s.z s.p ∧ vV s.x s.y s.z s.p = if k % 2 = 0 then R else R.flip) ∧ Q (.bl true) μ
theorem i_mbest {x y z : Int} {p : Bool} {μ : Mu} {Q : PQ} {E : PX} (v : Valid x y z) (q : Q (.str (bestW x y z p).s) μ) : sp_m_race_best [.int x, .int y, .int z, .bl p] μ Q E :=
  ⟨.int x, .int y, .int z, p, rfl, .inl ⟨_, rfl⟩, .inl ⟨_, rfl⟩, .inl ⟨_, rfl⟩, fun _ i j k e1 e2 e3 => by cases e1; cases e2; cases e3; exact q, fun w d h => by rw [due_valid v] at h; cases h⟩
theorem i_same3 {x y : D} {μ : Mu} {Q : PQ} {E : PX} (h : sameM μ 3 x y = some true) (q : Q (.bl true) μ) : [x, y].length = 2 ∧ sp_sameN 3 [x, y] μ Q E := ⟨rfl, x, y, true, rfl, h, q⟩
theorem pf_walk_agrees : ∀ ds μ Q E, sp_walk_agrees ds μ Q E → w_walk_agrees (endK Q E) (startD N_walk_agrees ds) μ := by
  rintro ds μ Q E ⟨a, R, L, rfl, ha, hl, hL, q⟩
  unfold w_walk_agrees
  rotate_left 901
  refine ⟨_, rfl, (by decide : 3 ≤ 15), ?_⟩
  rotate_left 901
  refine i_turn ?_
  rotate_left 901
  refine ⟨_, rfl, by rw [List.length_map]; omega, by rw [List.length_map]; omega, ?_⟩
  rw [Int.toNat_natCast, List.length_map]
  refine forLoop_inv (fun rem ρ μ' => ∃ (c : Nat) (x2 x3 x4 : Option D), c ≤ L.length ∧ rem = (rngD 0 L.length).drop c ∧ ρ = [some (.tup [.raw a, .str R.s]), some (.str R.flip.s), x2, x3, x4] ∧ μ' = μ)
    (fun _ _ _ _ => trivial) ?_ ?_ _ _ _ ⟨0, none, none, none, by omega, rfl, rfl, rfl⟩
  · rintro ρ μ' ⟨c, x2, x3, x4, hc, e, rfl, rfl⟩
    rotate_left 901
    exact q
  · rintro d ds ρ μ' ⟨c, x2, x3, x4, hc, e, rfl, rfl⟩ nx hnx
    obtain ⟨hi2, rfl, rfl⟩ := rng_cons e
    obtain ⟨s, hs⟩ : ∃ s, L[c]? = some s := ⟨_, List.getElem?_eq_getElem hi2⟩
    obtain ⟨v, hw, hv⟩ := hL c s hs
    have hat : atI (L.map stD) (0 + (c : Int)) = some (stD s) := by
      unfold atI ixN
      rw [if_pos (by omega), if_pos (by rw [List.length_map]; omega)]
      show (L.map stD)[(0 + (c : Int)).toNat]? = _
      rw [show (0 + (c : Int)).toNat = c by omega, List.getElem?_map, hs]
      rfl
    rotate_left 901
    refine i_ixS ha hat ?_
    unfold stD
    rotate_left 901
    refine i_ixS ha hat ?_
    unfold stD
    rotate_left 901
    refine ⟨rfl, rfl, ?_⟩
    refine i_mbest v ?_
    rotate_left 901
    refine i_ixS ha hat ?_
    unfold stD
    rotate_left 901
    refine i_same3 (by rw [hw]; exact sameM_str) ?_
    rotate_left 901
    refine ⟨rfl, rfl, ?_⟩
    refine i_value v ?_
    rotate_left 901
    refine i_modI (by decide) ?_
    by_cases hc2 : c % 2 = 0
    · rw [if_pos hc2] at hv
      rw [show (0 + (c : Int)) % 2 = 0 by omega, hv]
      rotate_left 901
      refine i_same3 sameM_str ?_
      rotate_left 901
      exact hnx _ _ ⟨c + 1, _, _, _, by omega, rfl, rfl, rfl⟩
    · rw [if_neg hc2] at hv
      rw [show (0 + (c : Int)) % 2 = 1 by omega, hv]
      rotate_left 901
      refine i_same3 sameM_str ?_
      rotate_left 901
      exact hnx _ _ ⟨c + 1, _, _, _, by omega, rfl, rfl, rfl⟩
end K77


set_option maxRecDepth 100000
set_option maxHeartbeats 4000000
namespace K77
open PySem PySem.Spec PyProof.Rows L2 T2 K74 K73 K76
/-- the store at a, lists at r, t -/
structure Th (μ : Mu) (a r t : Addr) (o : MO) (L M : List D) : Prop where
  ne : t ≠ r
  ne2 : t ≠ a
  T : Tw μ a r o L
  h3 : μ t = some (.lst M)
theorem Th.new {μ : Mu} {a r t : Addr} {o : MO} {L M : List D} (T : Tw μ a r o L) (h : μ t = none) : Th (mset μ t (.lst M)) a r t o L M := by
  have n1 : t ≠ r := fun z => by subst z; have := T.h2; rw [h] at this; cases this
  have n2 : t ≠ a := fun z => by subst z; have := T.h1; rw [h] at this; cases this
  exact ⟨n1, n2, ⟨T.ne, by rw [mset_ne n2.symm]; exact T.h1, by rw [mset_ne n1.symm]; exact T.h2⟩, mset_same⟩
theorem Th.t {μ : Mu} {a r t : Addr} {o : MO} {L M : List D} (H : Th μ a r t o L M) (M' : List D) : Th (mset μ t (.lst M')) a r t o L M' :=
  ⟨H.ne, H.ne2, ⟨H.T.ne, by rw [mset_ne H.ne2.symm]; exact H.T.h1, by rw [mset_ne H.ne.symm]; exact H.T.h2⟩, mset_same⟩
theorem Th.ne3 {μ : Mu} {a r t n : Addr} {o : MO} {L M : List D} (H : Th μ a r t o L M) (h : μ n = none) : r ≠ n ∧ a ≠ n ∧ t ≠ n :=
  ⟨fun z => (by subst z; have := H.T.h2; rw [h] at this; cases this), fun z => (by subst z; have := H.T.h1; rw [h] at this; cases this), fun z => (by subst z; have := H.h3; rw [h] at this; cases this)⟩
theorem Th.put {μ : Mu} {a r t n : Addr} {o : MO} {L M : List D} (H : Th μ a r t o L M) (n3 : r ≠ n ∧ a ≠ n ∧ t ≠ n) (m : MO) : Th (mset μ n m) a r t o L M :=
  ⟨H.ne, H.ne2, ⟨H.T.ne, by rw [mset_ne n3.2.1]; exact H.T.h1, by rw [mset_ne n3.1]; exact H.T.h2⟩, by rw [mset_ne n3.2.2]; exact H.h3⟩
theorem map_drop {α : Type} {f : α → D} {L : List α} {c : Nat} {d : D} {ds : List D} (h : d :: ds = (L.map f).drop c) : ∃ x, L[c]? = some x ∧ d = f x ∧ ds = (L.map f).drop (c + 1) := by
  have hl := congrArg List.length h
  rw [List.length_drop, List.length_map, List.length_cons] at hl
  have hc : c < L.length := by omega
  rw [List.drop_eq_getElem_cons (by rw [List.length_map]; exact hc)] at h
  obtain ⟨h1, h2⟩ := List.cons.inj h
  exact ⟨L[c], List.getElem?_eq_getElem hc, by rw [h1, List.getElem_map], h2⟩
def Gr (L : List (Int × Int × Int)) : Prop := ∀ r ∈ L, Valid r.1 r.2.1 r.2.2 ∧ r.1 ≤ 30 ∧ r.2.1 ≤ 30 ∧ r.2.2 ≤ 30
def rD (r : Int × Int × Int) : D := rw3 r.1 r.2.1 r.2.2
def dD (r : Int × Int × Int) : D := .tup [.lst (dl r.1 r.2.1 r.2.2), .str (vV r.1 r.2.1 r.2.2 false).s]
theorem dl_len {x y z : Int} : (dl x y z).length ≤ fuel x y z := by unfold dl stps; rw [List.length_map]; exact go_len _
theorem fuel180 {x y z : Int} (h1 : x ≤ 30) (h2 : y ≤ 30) (h3 : z ≤ 30) : fuel x y z ≤ 180 := by unfold fuel; omega
theorem same_line {μ : Mu} {n : Nat} {b : Addr} {xs : List D} {s : Str} (hl : xs.length < 1000000) (hb : μ b = some (.lst xs)) (h : ∀ d ∈ xs, ∃ t, d = D.str t) : sameM μ (n + 1 + 1) (.tup [.raw b, .str s]) (.tup [.lst xs, .str s]) = some true := by
  have e : sameM μ (n + 1) (.raw b) (.lst xs) = some true := sameM_lst hl hb fun d hd => by
    obtain ⟨t, rfl⟩ := h d hd
    exact sameM_str
  show (if false = true then _ else if true = true then rowsL (sameM μ (n + 1)) [.raw b, .str s] [.lst xs, .str s] else some false) = some true
  rw [if_neg (by decide), if_pos rfl]
  refine rowsL_ok rfl (by decide : 2 < 1000000) ?_
  unfold rowsM
  rw [e]
  unfold rowsM
  rw [sameM_str]
  rfl
theorem dl_str {x y z : Int} : ∀ d ∈ dl x y z, ∃ t, d = D.str t := fun d hd => by
  obtain ⟨s, _, rfl⟩ := List.mem_map.mp hd
  exact ⟨_, rfl⟩
theorem due30 {x y z : Int} (v : Valid x y z) (h1 : x ≤ 30) (h2 : y ≤ 30) (h3 : z ≤ 30) : due 30 (.int x) (.int y) (.int z) = none := by
  obtain ⟨v1, v2, v3, v4, v5, v6, v7, v8⟩ := v
  have n1 : num 0 30 (.int x) = true := decide_eq_true ⟨v1, h1⟩
  have n2 : num 0 30 (.int y) = true := decide_eq_true ⟨v3, h2⟩
  have n3 : num 0 30 (.int z) = true := decide_eq_true ⟨v5, h3⟩
  unfold due due3
  rw [n1, n2, n3, if_neg (by decide), if_neg (by decide), if_neg (by decide)]
  show (if x + z = 0 then some (("own" : Str), D.int x) else if y + z = 0 then some (("other" : Str), D.int y) else none) = none
  rw [if_neg (by omega), if_neg (by omega)]
/-! law -/
def N_law : List Str := ["_law_script", "_law_store_here", "_law_races", "_law_k", "_law_odd", "_law_dues", "_law_row", "_law_walk", "_law_step", "_law_told", "_law_due"]
def P_law : List Str := ["_law_script"]
abbrev w_law_p0 : WS := (wSeq (wIfS (wAndT (wTB (wOp gIsNot (wVar 10) (wC .non))) (wNotT (wTru (wCall 2 (sp_sameN 3) (wCons (wCall 1 sp_line_asked (wCons (wVar 4) wNil)) (wCons (wTup (wCons (wC (.str "raised")) (wCons (wC (.str "BadNumber")) (wCons (wVar 10) (wCons (wC (.bl true)) wNil))))) wNil)))))) (wRet (wC (.bl false))) wNext)
  (wRet (wCall 2 (sp_sameN 3) (wCons (wCall 1 sp_line_asked (wCons (wOp gIx (wVar 2) (wC (.int 2))) wNil)) (wCons (wTup (wCons (wC (.str "gave")) (wCons (wOp gIx (wVar 5) (wC (.int 2))) wNil))) wNil)))))
abbrev w_law_p1 : WS := (wSeq (wAsg 9 (wCall 3 sp_m_race_line (wCons (wOp gIx (wOp gIx (wVar 2) (wVar 3)) (wC (.int 0))) (wCons (wOp gIx (wOp gIx (wVar 2) (wVar 3)) (wC (.int 1))) (wCons (wOp gIx (wOp gIx (wVar 2) (wVar 3)) (wC (.int 2))) wNil)))))
    (wSeq (wIfS (wNotT (wTru (wCall 2 (sp_sameN 3) (wCons (wVar 9) (wCons (wOp gIx (wVar 5) (wVar 3)) wNil))))) (wRet (wC (.bl false))) wNext)
    (wSeq (wDrop (wMt "list" gAppend (wOp gIx (wVar 9) (wC (.int 0))) (wCons (wC (.str "pass")) wNil)))
    (wSet gSet (wOp gIx (wVar 9) (wC (.int 0))) (wC (.int 0)) (wC (.str "own"))))))
abbrev w_law_p2 : WS := (wSeq (wAsg 7 (wCall 2 sp_walk_of (wCons (wVar 6) (wCons (wOp gMul (wC (.int 2)) (wOp gAdd (wOp gAdd (wOp gIx (wVar 6) (wC (.int 0))) (wOp gIx (wVar 6) (wC (.int 1)))) (wOp gIx (wVar 6) (wC (.int 2))))) wNil))))
    (wSeq (wIfS (wOrT (wTB (wOp gIs (wOp gIx (wVar 7) (wC (.int 1))) (wC .non))) (wNotT (wTru (wCall 1 sp_walk_agrees (wCons (wVar 7) wNil))))) (wRet (wC (.bl false))) wNext)
    (wDrop (wMt "list" gAppend (wVar 5) (wCons (wTup (wCons (wLc (wIt (wOp gIx (wVar 7) (wC (.int 0)))) (wgName 8) wYes (wOp gIx (wVar 8) (wC (.int 2)))) (wCons (wOp gIx (wVar 7) (wC (.int 1))) wNil))) wNil)))))
abbrev w_law_p3 : WS := (wSeq (wAsg 4 (wCall 2 sp_bad_race (wCons (wVar 1) (wCons (wC (.int 30)) wNil))))
  (wSeq (wAsg 5 (wLstM wNil))
  (wSeq (wFor (wIt (wVar 2)) (wgName 6) w_law_p2)
  (wSeq (wFor (wIt (wLst (wCons (wC (.int 0)) (wCons (wC (.int 1)) (wCons (wC (.int 2)) (wCons (wC (.int 1)) (wCons (wC (.int 0)) wNil))))))) (wgName 3) w_law_p1)
  (wSeq (wAsg 10 (wCall 4 sp_race_due (wCons (wOp gIx (wVar 4) (wC (.int 0))) (wCons (wOp gIx (wVar 4) (wC (.int 1))) (wCons (wOp gIx (wVar 4) (wC (.int 2))) (wCons (wC (.int 30)) wNil))))))
  w_law_p0)))))
def w_law  : WS := (wSeq (wAsg 1 (wCall 1 sp_store (wCons (wVar 0) wNil)))
  (wSeq (wAsg 2 (wLstM wNil))
  (wSeq (wFor (wRng1 (wC (.int 3))) (wgName 3) (wDrop (wMt "list" gAppend (wVar 2) (wCons (wCall 2 sp_race (wCons (wVar 1) (wCons (wCall 2 sp_pick (wCons (wVar 1) (wCons (wLst (wCons (wC (.int 1)) (wCons (wC (.int 4)) (wCons (wC (.int 12)) (wCons (wC (.int 30)) wNil))))) wNil))) wNil))) wNil))))
  w_law_p3)))
def G_law : Gam := ⟨[⟨"_law_same", 2, [], false, (sp_sameN 3)⟩, ⟨"_law_line_asked", 1, [], false, sp_line_asked⟩, ⟨"_law_race_due", 4, [], false, sp_race_due⟩, ⟨"race_line", 3, [], false, sp_m_race_line⟩, ⟨"_law_walk_agrees", 1, [], false, sp_walk_agrees⟩, ⟨"_law_walk_of", 2, [], false, sp_walk_of⟩, ⟨"_law_bad_race", 2, [], false, sp_bad_race⟩, ⟨"_law_race", 2, [], false, sp_race⟩, ⟨"_law_pick", 2, [], false, sp_pick⟩, ⟨"_law_store", 1, [], true, sp_store⟩], [], [], [], []⟩
def sp_law : SpD := fun ds μ Q _ => ∃ ns : List Int, ds = [.scr (ns.map D.int)] ∧ (∀ z ∈ ns, Bd BB z) ∧ ns.length < sizeLine ∧ ∀ μ', Q (.bl true) μ'
theorem pf_law : ∀ ds μ Q E, sp_law ds μ Q E → w_law (endK Q E) (startD N_law ds) μ := by
  rintro ds μ Q E ⟨ns, rfl, hbt, hln, q⟩
  unfold w_law
  rotate_left 901
  refine ⟨rfl, ns, rfl, hbt, hln, fun a o hn ho => ?_⟩
  rotate_left 901
  intro r hr
  have T := Tw.new (L := []) mset_same hr
  generalize mset (mset μ a o) r (.lst []) = μ1 at T ⊢
  rotate_left 901
  refine ⟨_, rfl, by omega, by omega, ?_⟩
  refine forLoop_inv (fun rem ρ μ' => ∃ (i : Nat) (o : MO) (L : List (Int × Int × Int)) (x3 : Option D), i ≤ 3 ∧ rem = (rngD 0 3).drop i ∧ ρ = [some (.scr (ns.map D.int)), some (.raw a), some (.raw r), x3, none, none, none, none, none, none, none] ∧ Tw μ' a r o (L.map rD) ∧ Gr L ∧ L.length = i ∧ StO (100 + 100 * i) o)
    (fun _ _ _ _ => trivial) ?_ ?_ _ _ _ ⟨0, o, [], none, Nat.zero_le _, rfl, rfl, T, fun _ h => (by cases h), rfl, ho.mono (by omega)⟩
  · rintro ρ μ' ⟨i, o, L, x3, hi, e, rfl, T, hL, hl, ho⟩
    have hl3 : L.length = 3 := by have := rng_nil e; omega
    rotate_left 901
    refine ⟨rfl, a, o, _, 30, rfl, T.h1, ho, by omega, by decide, by decide, fun bx bY bz o1 hx hy hz ho1 => ?_⟩
    have T := T.a o1
    generalize mset μ' a o1 = μ3 at T ⊢
    rotate_left 901
    intro t ht
    have H := Th.new (M := []) T ht
    generalize mset μ3 t (.lst []) = μ4 at H ⊢
    rotate_left 901
    refine Or.inl ⟨_, getS_raw H.T.h2, ?_⟩
    refine forLoop_inv (fun rem ρ μ2 => ∃ (c : Nat) (x6 x7 x8 : Option D), c ≤ 3 ∧ rem = (L.map rD).drop c ∧ Th μ2 a r t o1 (L.map rD) ((L.take c).map dD) ∧ ρ = [some (.scr (ns.map D.int)), some (.raw a), some (.raw r), x3, some (.tup [bx, bY, bz]), some (.raw t), x6, x7, x8, none, none]) (fun _ _ _ h => by obtain ⟨_, _, _, _, _, _, H, _⟩ := h; exact getS_raw H.T.h2) ?_ ?_ _ _ _ ⟨0, none, none, none, by omega, rfl, H, rfl⟩
    · rintro ρ μ2 ⟨c, x6, x7, x8, hc, e, H, rfl⟩
      have hc3 : c = 3 := by
        have := congrArg List.length e
        rw [List.length_drop, List.length_map, hl3, List.length_nil] at this
        omega
      subst hc3
      rw [List.take_of_length_le (by omega)] at H
      obtain ⟨r0, r1, r2, rfl⟩ : ∃ r0 r1 r2, L = [r0, r1, r2] := by
        match L, hl3 with
        | [r0, r1, r2], _ => exact ⟨r0, r1, r2, rfl⟩
      obtain ⟨v0, a0, b0, c0⟩ := hL r0 (by simp)
      obtain ⟨v1, a1, b1, c1⟩ := hL r1 (by simp)
      obtain ⟨v2, a2, b2, c2⟩ := hL r2 (by simp)
      obtain ⟨x0, y0, z0⟩ := r0
      obtain ⟨x1, y1, z1⟩ := r1
      obtain ⟨x2, y2, z2⟩ := r2
      simp only [List.map_cons, List.map_nil, rD, dD] at H v0 v1 v2 a0 a1 a2 b0 b1 b2 c0 c1 c2
      have hk : ∀ k : Int, k = 0 ∨ k = 1 ∨ k = 2 → ∃ x y z, atI [rw3 x0 y0 z0, rw3 x1 y1 z1, rw3 x2 y2 z2] k = some (rw3 x y z) ∧
          atI [D.tup [.lst (dl x0 y0 z0), .str (vV x0 y0 z0 false).s], D.tup [.lst (dl x1 y1 z1), .str (vV x1 y1 z1 false).s], D.tup [.lst (dl x2 y2 z2), .str (vV x2 y2 z2 false).s]] k = some (D.tup [.lst (dl x y z), .str (vV x y z false).s]) ∧ Valid x y z ∧ x ≤ 30 ∧ y ≤ 30 ∧ z ≤ 30 := by
        rintro k (rfl | rfl | rfl)
        · exact ⟨x0, y0, z0, rfl, rfl, v0, a0, b0, c0⟩
        · exact ⟨x1, y1, z1, rfl, rfl, v1, a1, b1, c1⟩
        · exact ⟨x2, y2, z2, rfl, rfl, v2, a2, b2, c2⟩
      rotate_left 901
      refine Or.inl ⟨_, rfl, ?_⟩
      refine forLoop_inv (fun rem ρ μ3 => (∀ d ∈ rem, ∃ k : Int, d = .int k ∧ (k = 0 ∨ k = 1 ∨ k = 2)) ∧ Th μ3 a r t o1 [rw3 x0 y0 z0, rw3 x1 y1 z1, rw3 x2 y2 z2] [D.tup [.lst (dl x0 y0 z0), .str (vV x0 y0 z0 false).s], D.tup [.lst (dl x1 y1 z1), .str (vV x1 y1 z1 false).s], D.tup [.lst (dl x2 y2 z2), .str (vV x2 y2 z2 false).s]] ∧ ∃ x3 x9, ρ = [some (.scr (ns.map D.int)), some (.raw a), some (.raw r), x3, some (.tup [bx, bY, bz]), some (.raw t), x6, x7, x8, x9, none])
        (fun _ _ _ _ => rfl) ?_ ?_ _ _ _ ⟨?_, H, x3, none, rfl⟩
      · rintro ρ μ3 ⟨_, H, x3, x9, rfl⟩
        have fin : ∀ (Q' : PQ) (E' : PX), (∀ b, μ3 b = none → Q' (.tup [.str "gave", .tup [.raw b, .str (vV x2 y2 z2 false).s]]) (mset μ3 b (.lst (dl x2 y2 z2)))) → [rw3 x2 y2 z2].length = 1 ∧ sp_line_asked [rw3 x2 y2 z2] μ3 Q' E' := fun Q' E' q' =>
          ⟨rfl, .int x2, .int y2, .int z2, rfl, .inl ⟨_, rfl⟩, .inl ⟨_, rfl⟩, .inl ⟨_, rfl⟩, fun i j k b e1 e2 e3 _ _ hb => (by cases e1; cases e2; cases e3; exact q' b hb), fun w d h => (by rw [due30 v2 a2 b2 c2] at h; cases h)⟩
        have sameG : ∀ b, sameM (mset μ3 b (.lst (dl x2 y2 z2))) 3 (.tup [.str "gave", .tup [.raw b, .str (vV x2 y2 z2 false).s]]) (.tup [.str "gave", .tup [.lst (dl x2 y2 z2), .str (vV x2 y2 z2 false).s]]) = some true := fun b => by
          have e := same_line (n := 0) (b := b) (s := (vV x2 y2 z2 false).s) (Nat.lt_of_le_of_lt dl_len (Nat.lt_of_le_of_lt (fuel180 a2 b2 c2) (by decide))) (mset_same (μ := μ3) (a := b)) (dl_str (x := x2) (y := y2) (z := z2))
          show (if false = true then _ else if true = true then rowsL (sameM (mset μ3 b (.lst (dl x2 y2 z2))) 2) [.str "gave", .tup [.raw b, .str (vV x2 y2 z2 false).s]] [.str "gave", .tup [.lst (dl x2 y2 z2), .str (vV x2 y2 z2 false).s]] else some false) = some true
          rw [if_neg (by decide), if_pos rfl]
          refine rowsL_ok rfl (by decide : 2 < 1000000) ?_
          unfold rowsM
          rw [sameM_str]
          unfold rowsM
          rw [e]
          rfl
        rotate_left 901
        refine ⟨rfl, bx, bY, bz, 30, rfl, hx, hy, hz, fun hd => ?_, fun w d hd => ?_⟩
        · rotate_left 901
          refine i_ixS H.T.h2 (by rfl : _ = some (rw3 x2 y2 z2)) ?_
          rotate_left 901
          refine fin _ _ fun b hb => ?_
          have H := H.put (H.ne3 hb) (.lst (dl x2 y2 z2))
          rotate_left 901
          refine i_ixS H.h3 (by rfl : _ = some (D.tup [.lst (dl x2 y2 z2), .str (vV x2 y2 z2 false).s])) ?_
          rotate_left 901
          refine i_same3 (sameG b) ?_
          rotate_left 901
          exact q _
        · have hs := due_sc hx hy hz hd
          rotate_left 901
          refine ⟨rfl, bx, bY, bz, rfl, hx, hy, hz, fun i j k a e1 e2 e3 h => (by rw [hd] at h; cases h), fun w' d' h => ?_⟩
          rw [hd] at h
          cases h
          rotate_left 901
          refine i_same3 (same_rb hs) ?_
          rotate_left 901
          refine i_ixS H.T.h2 (by rfl : _ = some (rw3 x2 y2 z2)) ?_
          rotate_left 901
          refine fin _ _ fun b hb => ?_
          have H := H.put (H.ne3 hb) (.lst (dl x2 y2 z2))
          rotate_left 901
          refine i_ixS H.h3 (by rfl : _ = some (D.tup [.lst (dl x2 y2 z2), .str (vV x2 y2 z2 false).s])) ?_
          rotate_left 901
          refine i_same3 (sameG b) ?_
          rotate_left 901
          exact q _
      · rintro d ds ρ μ3 ⟨hg, H, x3, x9, rfl⟩ nx hnx
        obtain ⟨kk, rfl, hkk⟩ := hg _ (List.mem_cons_self ..)
        obtain ⟨x, y, z, at1, at2, v, l1, l2, l3⟩ := hk kk hkk
        have hf := fuel180 l1 l2 l3
        rotate_left 901
        refine i_ixS H.T.h2 at1 ?_
        rotate_left 901
        refine i_ixS H.T.h2 at1 ?_
        rotate_left 901
        refine i_ixS H.T.h2 at1 ?_
        rotate_left 901
        refine ⟨rfl, .int x, .int y, .int z, rfl, .inl ⟨_, rfl⟩, .inl ⟨_, rfl⟩, .inl ⟨_, rfl⟩, fun _ i j k b e1 e2 e3 _ hb => ?_, fun w d h => (by rw [due30 v l1 l2 l3] at h; cases h)⟩
        cases e1; cases e2; cases e3
        have hn3 := H.ne3 hb
        have hb2 : mset μ3 b (.lst (dl x y z)) b = some (.lst (dl x y z)) := mset_same
        have H := H.put hn3 (.lst (dl x y z))
        generalize mset μ3 b (.lst (dl x y z)) = μ5 at H hb2 ⊢
        have hl1 : (dl x y z).length ≤ 180 := Nat.le_trans dl_len hf
        rotate_left 901
        refine i_ixS H.h3 at2 ?_
        rotate_left 901
        refine i_same3 (same_line (by omega) hb2 dl_str) ?_
        rotate_left 901
        refine ⟨tymL hb2, ?_⟩
        rotate_left 901
        refine i_app hb2 (Nat.lt_of_le_of_lt hl1 (by decide)) ?_
        rotate_left 901
        have hix : ixN (dl x y z ++ [D.str "pass"]).length 0 = some 0 := by
          unfold ixN
          rw [if_pos (by decide), if_pos (by rw [List.length_append, List.length_singleton]; omega)]
          rfl
        refine i_setL mset_same hix ?_
        rw [mset_mset]
        exact hnx _ _ ⟨fun d h => hg d (List.mem_cons_of_mem _ h), H.put hn3 _, _, _, rfl⟩
      · intro d h
        simp only [List.mem_cons, List.not_mem_nil, or_false] at h
        rcases h with rfl | rfl | rfl | rfl | rfl <;> exact ⟨_, rfl, by decide⟩
    · rintro d ds ρ μ2 ⟨c, x6, x7, x8, hc, e, H, rfl⟩ nx hnx
      obtain ⟨⟨x, y, z⟩, hx, rfl, rfl⟩ := map_drop e
      have hc3 : c < 3 := by
        have := List.getElem?_eq_some_iff.mp hx
        obtain ⟨h, _⟩ := this
        omega
      obtain ⟨v, l1, l2, l3⟩ := hL (x, y, z) (List.mem_of_getElem? hx)
      have v : Valid x y z := v
      have l1 : x ≤ 30 := l1
      have l2 : y ≤ 30 := l2
      have l3 : z ≤ 30 := l3
      have hf := fuel180 l1 l2 l3
      show wgName 6 (rw3 x y z) _ _ _
      have hpos : 0 ≤ x + y + z := by unfold Valid at v; omega
      rotate_left 901
      refine i_mulI ((show Bd 2 2 by unfold Bd; decide).mul (Bd.nat (n := 7) hpos (by omega)) (by decide)) ?_
      rotate_left 901
      refine ⟨rfl, x, y, z, _, rfl, v, rfl, by omega, fun b hb => ?_⟩
      have hb2 : mset μ2 b (.lst ((stps x y z).map stD)) b = some (.lst ((stps x y z).map stD)) := mset_same
      have H := H.put (H.ne3 hb) (.lst ((stps x y z).map stD))
      generalize mset μ2 b (.lst ((stps x y z).map stD)) = μ5 at H hb2 ⊢
      rotate_left 901
      refine ⟨rfl, b, _, stps x y z, rfl, hb2, by have := @go_len (fuel x y z) x y z false; unfold stps; omega, go_all _ v (fuel_ok v), ?_⟩
      rotate_left 901
      refine ⟨tymL H.h3, ?_⟩
      rotate_left 901
      refine Or.inl ⟨_, getS_raw hb2, ?_⟩
      refine lcLoop_inv (fun ds acc μ' => μ' = μ5 ∧ ∃ dn rest, stps x y z = dn ++ rest ∧ ds = rest.map stD ∧ acc = dn.map fun s : Stp => D.str s.w.s) (fun _ _ _ h => by rw [h.1]; exact getS_raw hb2) ?_ ?_ _ _ _ ⟨rfl, [], stps x y z, rfl, rfl, rfl⟩
      · rintro acc μ' ⟨rfl, dn, rest, e1, e2, rfl⟩
        cases rest with
        | cons => cases e2
        | nil =>
        rw [List.append_nil] at e1
        rw [← e1]
        rotate_left 901
        refine i_app H.h3 (by rw [List.length_map]; exact Nat.lt_of_le_of_lt (List.length_take_le ..) (Nat.lt_of_le_of_lt hc (by decide))) ?_
        rotate_left 901
        refine hnx _ _ ⟨c + 1, _, _, _, by omega, rfl, ?_, rfl⟩
        have et : (L.take (c + 1)).map dD = (L.take c).map dD ++ [dD (x, y, z)] := by
          rw [List.take_succ, hx, List.map_append]; rfl
        rw [et]
        exact H.t _
      · rintro d ds acc μ' ⟨rfl, dn, rest, e1, e2, rfl⟩ Z hZ
        cases rest with
        | nil => cases e2
        | cons s rest =>
        obtain ⟨rfl, rfl⟩ := List.cons.inj e2
        unfold stD
        rotate_left 901
        have hle := congrArg List.length e1
        rw [List.length_append, List.length_cons] at hle
        have := @go_len (fuel x y z) x y z false
        refine ⟨by rw [List.length_map]; unfold stps at hle; exact Nat.lt_of_le_of_lt (show dn.length ≤ 180 by omega) (by decide), ?_⟩
        refine hZ _ _ ⟨rfl, dn ++ [s], rest, by rw [e1, List.append_assoc]; rfl, rfl, ?_⟩
        rw [List.map_append]
        rfl
  · rintro d ds ρ μ' ⟨i, o, L, x3, hi, e, rfl, T, hL, hl, ho⟩ nx hnx
    obtain ⟨hi2, rfl, rfl⟩ := rng_cons e
    rotate_left 901
    refine ⟨tymL T.h2, ?_⟩
    rotate_left 901
    refine i_pick T.h1 ho (by omega) rfl (fun _ => rfl) (by decide : 4 < 1000000000) (by simp) fun d hd o1 ho1 => ?_
    have T := T.a o1
    generalize mset μ' a o1 = μ3 at T ⊢
    obtain ⟨hi, rfl, hi1, hi2⟩ : ∃ n, d = D.int n ∧ 1 ≤ n ∧ n ≤ 30 := by
      simp only [List.mem_cons, List.not_mem_nil, or_false] at hd
      rcases hd with rfl | rfl | rfl | rfl <;> exact ⟨_, rfl, by decide, by decide⟩
    rotate_left 901
    refine i_raceH T.h1 ho1 (by omega) hi1 (by omega) fun x y z o2 v ho2 => ?_
    have T := T.a o2
    generalize mset μ3 a o2 = μ4 at T ⊢
    rotate_left 901
    refine i_app T.h2 (by rw [List.length_map, hl]; exact Nat.lt_of_le_of_lt (show i ≤ 3 by omega) (by decide)) ?_
    rotate_left 901
    refine hnx _ _ ⟨i + 1, o2, L ++ [(x, y, z)], _, by omega, rfl, rfl, ?_, ?_, by rw [List.length_append, hl]; rfl, ho2.mono (by omega)⟩
    · rw [List.map_append]; exact T.r _
    · intro r hr
      rcases List.mem_append.mp hr with hr | hr
      · exact hL r hr
      · rw [List.mem_singleton] at hr
        subst hr
        exact ⟨v.1, show x ≤ 30 by omega, show y ≤ 30 by omega, show z ≤ 30 by omega⟩
end K77


set_option maxRecDepth 100000
set_option maxHeartbeats 4000000
namespace K77
open PySem PySem.Spec PyProof.Rows L2 T2 K74 K73 K76
def top (i : Nat) : Stmt := PySem.Challenge.pw_tworooms_k77_line_ends_with_the_value.main.body.getD i (.Pass ⟨0, 0, 0, 0⟩)
def inner (s : Stmt) (j : Nat) : Stmt := match s with
  | .ClassDef _ _ _ b _ _ _ _ _ _ _ => b.getD j (.Pass ⟨0, 0, 0, 0⟩)
  | _ => .Pass ⟨0, 0, 0, 0⟩
def consts : List (Str × D) := [("FILL", (.str "fill")), ("SHARE", (.str "share")), ("OWN", (.str "own")), ("PEACE", (.str "peace")), ("LOSES", (.str "loses")), ("WINS", (.str "wins")), ("MOST_RACE", (.int 1000000)), ("STAY", (.str "pass")), ("MOST_LINE", (.int 30))]
def raises : List (Str × List Str) := [("BadNumber", ["what", "value"])]
def subs : List (Str × (Str → Bool)) := [("BadNumber", isX_BadNumber), ("ValueError", isX_ValueError), ("TworoomsError", isX_TworoomsError), ("BadName", isX_BadName), ("TooMany", isX_TooMany), ("NoEntry", isX_NoEntry)]
def flds : List Str := ["value", "what"]
def cs : List Str := ["BadNumber"]
def GG (fs : List FunE) : Gam := ⟨fs, consts, raises, subs, flds⟩
def d_mixed : He.DefD := ⟨("_law_mixed", none), "_law_mixed", "_law_mixed", defArgs (top 30), defBody (top 30), defScope (top 30), [], []⟩
def d_take : He.DefD := ⟨("_law_take", none), "_law_take", "_law_take", defArgs (top 31), defBody (top 31), defScope (top 31), [], []⟩
def d_chance : He.DefD := ⟨("_law_chance", none), "_law_chance", "_law_chance", defArgs (top 33), defBody (top 33), defScope (top 33), [], []⟩
def d_pick : He.DefD := ⟨("_law_pick", none), "_law_pick", "_law_pick", defArgs (top 32), defBody (top 32), defScope (top 32), [], []⟩
def d_number : He.DefD := ⟨("_law_number", none), "_law_number", "_law_number", defArgs (top 34), defBody (top 34), defScope (top 34), [], []⟩
def d_bad_number : He.DefD := ⟨("_law_bad_number", none), "_law_bad_number", "_law_bad_number", defArgs (top 35), defBody (top 35), defScope (top 35), [], []⟩
def d_store : He.DefD := ⟨("_law_store", none), "_law_store", "_law_store", defArgs (top 29), defBody (top 29), defScope (top 29), [], []⟩
def d_same : He.DefD := ⟨("_law_same", none), "_law_same", "_law_same", defArgs (top 36), defBody (top 36), defScope (top 36), [], []⟩
def d_same_rows : He.DefD := ⟨("_law_same_rows", none), "_law_same_rows", "_law_same_rows", defArgs (top 37), defBody (top 37), defScope (top 37), [], []⟩
def d_m_is_number : He.DefD := ⟨("is_number", none), "is_number", "is_number", defArgs (top 7), defBody (top 7), defScope (top 7), [], []⟩
def d_m_check_number : He.DefD := ⟨("check_number", none), "check_number", "check_number", defArgs (top 8), defBody (top 8), defScope (top 8), [], []⟩
def d_m_check_three : He.DefD := ⟨("check_three", none), "check_three", "check_three", defArgs (top 19), defBody (top 19), defScope (top 19), [], []⟩
def d_m_check_sums : He.DefD := ⟨("check_sums", none), "check_sums", "check_sums", defArgs (top 20), defBody (top 20), defScope (top 20), [], []⟩
def d_m_check_race : He.DefD := ⟨("check_race", none), "check_race", "check_race", defArgs (top 21), defBody (top 21), defScope (top 21), [], []⟩
def d_m_race_step : He.DefD := ⟨("race_step", none), "race_step", "race_step", defArgs (top 24), defBody (top 24), defScope (top 24), [], []⟩
def d_m_value_by_rule : He.DefD := ⟨("value_by_rule", none), "value_by_rule", "value_by_rule", defArgs (top 22), defBody (top 22), defScope (top 22), [], []⟩
def d_m_race_value : He.DefD := ⟨("race_value", none), "race_value", "race_value", defArgs (top 25), defBody (top 25), defScope (top 25), [], [("after_pass", .bl false)]⟩
def d_m_best_by_rule : He.DefD := ⟨("best_by_rule", none), "best_by_rule", "best_by_rule", defArgs (top 23), defBody (top 23), defScope (top 23), [], []⟩
def d_m_race_best : He.DefD := ⟨("race_best", none), "race_best", "race_best", defArgs (top 26), defBody (top 26), defScope (top 26), [], [("after_pass", .bl false)]⟩
def d_m_race_line : He.DefD := ⟨("race_line", none), "race_line", "race_line", defArgs (top 27), defBody (top 27), defScope (top 27), [], []⟩
def d_is_number : He.DefD := ⟨("_law_is_number", none), "_law_is_number", "_law_is_number", defArgs (top 41), defBody (top 41), defScope (top 41), [], []⟩
def d_race_due : He.DefD := ⟨("_law_race_due", none), "_law_race_due", "_law_race_due", defArgs (top 42), defBody (top 42), defScope (top 42), [], []⟩
def d_race_value : He.DefD := ⟨("_law_race_value", none), "_law_race_value", "_law_race_value", defArgs (top 43), defBody (top 43), defScope (top 43), [], []⟩
def d_race_after : He.DefD := ⟨("_law_race_after", none), "_law_race_after", "_law_race_after", defArgs (top 44), defBody (top 44), defScope (top 44), [], []⟩
def d_race_best : He.DefD := ⟨("_law_race_best", none), "_law_race_best", "_law_race_best", defArgs (top 45), defBody (top 45), defScope (top 45), [], []⟩
def d_line_asked : He.DefD := ⟨("_law_line_asked", none), "_law_line_asked", "_law_line_asked", defArgs (top 46), defBody (top 46), defScope (top 46), [], []⟩
def d_walk_of : He.DefD := ⟨("_law_walk_of", none), "_law_walk_of", "_law_walk_of", defArgs (top 47), defBody (top 47), defScope (top 47), [], []⟩
def d_walk_agrees : He.DefD := ⟨("_law_walk_agrees", none), "_law_walk_agrees", "_law_walk_agrees", defArgs (top 48), defBody (top 48), defScope (top 48), [], []⟩
def d_race : He.DefD := ⟨("_law_race", none), "_law_race", "_law_race", defArgs (top 39), defBody (top 39), defScope (top 39), [], []⟩
def d_bad_race : He.DefD := ⟨("_law_bad_race", none), "_law_bad_race", "_law_bad_race", defArgs (top 40), defBody (top 40), defScope (top 40), [], []⟩
def d_law : He.DefD := ⟨("law", none), "law", "law", defArgs (top 49), defBody (top 49), defScope (top 49), [], []⟩
def d_same_dicts : He.DefD := ⟨("_law_same_dicts", none), "_law_same_dicts", "_law_same_dicts", defArgs (top 38), defBody (top 38), defScope (top 38), [], []⟩
def d_init_BadNumber : He.DefD := ⟨("BadNumber", some "__init__"), "__init__", "BadNumber.__init__", defArgs (inner (top 2) 0), defBody (inner (top 2) 0), defScope (inner (top 2) 0), [], []⟩
def fn : List He.DefD := [d_mixed, d_take, d_chance, d_pick, d_number, d_bad_number, d_store, d_same, d_same_rows, d_m_is_number, d_m_check_number, d_m_check_three, d_m_check_sums, d_m_check_race, d_m_race_step, d_m_value_by_rule, d_m_race_value, d_m_best_by_rule, d_m_race_best, d_m_race_line, d_is_number, d_race_due, d_race_value, d_race_after, d_race_best, d_line_asked, d_walk_of, d_walk_agrees, d_race, d_bad_race, d_law, d_same_dicts, d_init_BadNumber]
def fa : List He.Fa := [.glo "_law_mixed", .glo "_law_take", .glo "_law_chance", .glo "_law_pick", .glo "_law_number", .glo "_law_bad_number", .glo "_law_store", .glo "_law_same", .glo "_law_same_rows", .glo "is_number", .glo "check_number", .glo "check_three", .glo "check_sums", .glo "check_race", .glo "race_step", .glo "value_by_rule", .glo "race_value", .glo "best_by_rule", .glo "race_best", .glo "race_line", .glo "_law_is_number", .glo "_law_race_due", .glo "_law_race_value", .glo "_law_race_after", .glo "_law_race_best", .glo "_law_line_asked", .glo "_law_walk_of", .glo "_law_walk_agrees", .glo "_law_race", .glo "_law_bad_race", .glo "law", .glo "_law_same_dicts", .glo "BadNumber", .glo "TworoomsError", .glo "BadName", .glo "TooMany", .glo "NoEntry", .free "len", .free "abs", .free "max", .free "min", .free "int", .free "list", .free "tuple", .free "all", .free "any", .free "range", .free "isinstance", .free "bool", .free "str", .free "dict", .free "sorted", .free "enumerate", .free "zip", .free "sum", .free "ord", .free "set", .free "iter", .free "reversed", .free "repr", .free "ValueError", .str "FILL" "fill", .str "SHARE" "share", .str "OWN" "own", .str "PEACE" "peace", .str "LOSES" "loses", .str "WINS" "wins", .int "MOST_RACE" 1000000, .str "STAY" "pass", .int "MOST_LINE" 30]
def fl_BadNumber : List Str := ["what", "value"]
def ex (K : PySem.W.Frag) : Bool := (xclB K "BadNumber" fl_BadNumber && (subB K cs "BadNumber" isX_BadNumber && (subV K cs "ValueError" isX_ValueError && (subB K cs "TworoomsError" isX_TworoomsError && (subB K cs "BadName" isX_BadName && (subB K cs "TooMany" isX_TooMany && (subB K cs "NoEntry" isX_NoEntry && ((decide (PySem.W.findIn K (.ref (He.ga K "BadNumber")) "__init__" = some (some (.ref (He.ma K (He.ga K "BadNumber") "__init__")))) && decide (PySem.W.typeIn K (.ref (He.ma K (He.ga K "BadNumber") "__init__")) = some (.type "function"))) && true))))))))
abbrev PG : Program := PySem.Challenge.pw_tworooms_k77_line_ends_with_the_value
structure Fk (w : World) (K : PySem.W.Frag) (mg : Str → Option Value) (base : Heap) : Prop where
  c : He.SaysD fa fn K
  glo : ∀ x, He.Fa.glo x ∈ fa → mg x = some (.ref (He.ga K x))
  b : Bs PG w K mg base (xct K cs) consts raises subs flds
theorem Fk.no {w : World} {K : PySem.W.Frag} {mg : Str → Option Value} {base : Heap} {k n : Nat} {ks : List Str} (B : Fk w K mg base) {d : He.DefD} {x : Str} (i : Nat) (h : fn[i]? = some d) (hx : He.Fa.glo x ∈ fa) (e : He.fAd K d.at_ = He.ga K x := by rfl) : FnAt PG w K mg base (xct K cs) k x n ks sp_no := by
  obtain ⟨fd, F⟩ := B.c.def_ i h
  exact FnAt.no (B.glo x hx) (by rw [← e]; exact F.kp)
section
variable {w : World} {K : PySem.W.Frag} {mg : Str → Option Value} {base : Heap}
abbrev s_mixed : Stmt := top 30
theorem tr_mixed : trSN (GG []) N_mixed (defScope s_mixed) [] false 30 60 none (defBody s_mixed) = some w_mixed := by kernel_rfl
theorem sc_mixed : FnScope N_mixed P_mixed (defScope s_mixed) := ⟨rfl, rfl, rfl, by decide +kernel, rfl, by decide +kernel, by decide +kernel⟩
theorem ln_mixed : ∀ ds μ Q E, sp_mixed ds μ Q E → ds.length = P_mixed.length := by
  intro ds μ Q E h
  unfold sp_mixed at h
  repeat (first | (obtain ⟨rfl, _⟩ := h; rfl; done) | (obtain ⟨_, h⟩ := h))
theorem ok_mixed (B : Fk w K mg base) {f : Addr} {fd : FuncData} (F : FunD K d_mixed.name d_mixed.qual d_mixed.params d_mixed.body d_mixed.scope (d_mixed.dvs K) (d_mixed.kws K) f fd) : FnOk PG w K mg base (L2.CX PG w) 3 f fd P_mixed (liftSp K (xct K cs) sp_mixed) :=
  fnOk F sc_mixed (B.b.gam (k := 2) (fs := []) (by decide) AllF.nil) tr_mixed ln_mixed pf_mixed
theorem at_mixed (B : Fk w K mg base) : FnAt PG w K mg base (xct K cs) 3 "_law_mixed" 3 [] sp_mixed := by
  obtain ⟨fd, F⟩ := B.c.def_ 0 (d := d_mixed) rfl
  exact FnAt.of (B.glo "_law_mixed" (by simp [fa])) F.kp (FunD.bindsN (ps := P_mixed) F fun _ _ _ _ _ _ us hl => match us, hl with | [_, _, _], _ => rfl) (ok_mixed B F)
abbrev s_take : Stmt := top 31
theorem tr_take : trSN (GG [⟨"_law_mixed", 3, [], false, sp_mixed⟩]) N_take (defScope s_take) [] false 30 60 none (defBody s_take) = some w_take := by kernel_rfl
theorem sc_take : FnScope N_take P_take (defScope s_take) := ⟨rfl, rfl, rfl, by decide +kernel, rfl, by decide +kernel, by decide +kernel⟩
theorem ln_take : ∀ ds μ Q E, sp_take ds μ Q E → ds.length = P_take.length := by
  intro ds μ Q E h
  unfold sp_take at h
  repeat (first | (obtain ⟨rfl, _⟩ := h; rfl; done) | (obtain ⟨_, h⟩ := h))
theorem ok_take (B : Fk w K mg base) {f : Addr} {fd : FuncData} (F : FunD K d_take.name d_take.qual d_take.params d_take.body d_take.scope (d_take.dvs K) (d_take.kws K) f fd) : FnOk PG w K mg base (L2.CX PG w) 4 f fd P_take (liftSp K (xct K cs) sp_take) :=
  fnOk F sc_take (B.b.gam (k := 3) (fs := [⟨"_law_mixed", 3, [], false, sp_mixed⟩]) (by decide) (AllF.cons ((at_mixed B).mono (by decide)) AllF.nil)) tr_take ln_take pf_take
theorem at_take (B : Fk w K mg base) : FnAt PG w K mg base (xct K cs) 4 "_law_take" 2 [] sp_take := by
  obtain ⟨fd, F⟩ := B.c.def_ 1 (d := d_take) rfl
  exact FnAt.of (B.glo "_law_take" (by simp [fa])) F.kp (FunD.bindsN (ps := P_take) F fun _ _ _ _ _ _ us hl => match us, hl with | [_, _], _ => rfl) (ok_take B F)
abbrev s_chance : Stmt := top 33
theorem tr_chance : trSN (GG [⟨"_law_take", 2, [], false, sp_take⟩]) N_chance (defScope s_chance) [] false 30 60 none (defBody s_chance) = some w_chance := by kernel_rfl
theorem sc_chance : FnScope N_chance P_chance (defScope s_chance) := ⟨rfl, rfl, rfl, by decide +kernel, rfl, by decide +kernel, by decide +kernel⟩
theorem ln_chance : ∀ ds μ Q E, sp_chance ds μ Q E → ds.length = P_chance.length := by
  intro ds μ Q E h
  unfold sp_chance at h
  repeat (first | (obtain ⟨rfl, _⟩ := h; rfl; done) | (obtain ⟨_, h⟩ := h))
theorem ok_chance (B : Fk w K mg base) {f : Addr} {fd : FuncData} (F : FunD K d_chance.name d_chance.qual d_chance.params d_chance.body d_chance.scope (d_chance.dvs K) (d_chance.kws K) f fd) : FnOk PG w K mg base (L2.CX PG w) 5 f fd P_chance (liftSp K (xct K cs) sp_chance) :=
  fnOk F sc_chance (B.b.gam (k := 4) (fs := [⟨"_law_take", 2, [], false, sp_take⟩]) (by decide) (AllF.cons ((at_take B).mono (by decide)) AllF.nil)) tr_chance ln_chance pf_chance
theorem at_chance (B : Fk w K mg base) : FnAt PG w K mg base (xct K cs) 5 "_law_chance" 2 [] sp_chance := by
  obtain ⟨fd, F⟩ := B.c.def_ 2 (d := d_chance) rfl
  exact FnAt.of (B.glo "_law_chance" (by simp [fa])) F.kp (FunD.bindsN (ps := P_chance) F fun _ _ _ _ _ _ us hl => match us, hl with | [_, _], _ => rfl) (ok_chance B F)
abbrev s_pick : Stmt := top 32
theorem tr_pick : trSN (GG [⟨"_law_take", 2, [], false, sp_take⟩]) N_pick (defScope s_pick) [] false 30 60 none (defBody s_pick) = some w_pick := by kernel_rfl
theorem sc_pick : FnScope N_pick P_pick (defScope s_pick) := ⟨rfl, rfl, rfl, by decide +kernel, rfl, by decide +kernel, by decide +kernel⟩
theorem ln_pick : ∀ ds μ Q E, sp_pick ds μ Q E → ds.length = P_pick.length := by
  intro ds μ Q E h
  unfold sp_pick at h
  repeat (first | (obtain ⟨rfl, _⟩ := h; rfl; done) | (obtain ⟨_, h⟩ := h))
theorem ok_pick (B : Fk w K mg base) {f : Addr} {fd : FuncData} (F : FunD K d_pick.name d_pick.qual d_pick.params d_pick.body d_pick.scope (d_pick.dvs K) (d_pick.kws K) f fd) : FnOk PG w K mg base (L2.CX PG w) 5 f fd P_pick (liftSp K (xct K cs) sp_pick) :=
  fnOk F sc_pick (B.b.gam (k := 4) (fs := [⟨"_law_take", 2, [], false, sp_take⟩]) (by decide) (AllF.cons ((at_take B).mono (by decide)) AllF.nil)) tr_pick ln_pick pf_pick
theorem at_pick (B : Fk w K mg base) : FnAt PG w K mg base (xct K cs) 5 "_law_pick" 2 [] sp_pick := by
  obtain ⟨fd, F⟩ := B.c.def_ 3 (d := d_pick) rfl
  exact FnAt.of (B.glo "_law_pick" (by simp [fa])) F.kp (FunD.bindsN (ps := P_pick) F fun _ _ _ _ _ _ us hl => match us, hl with | [_, _], _ => rfl) (ok_pick B F)
abbrev s_number : Stmt := top 34
theorem tr_number : trSN (GG [⟨"_law_take", 2, [], false, sp_take⟩, ⟨"_law_chance", 2, [], false, sp_chance⟩]) N_number (defScope s_number) [] false 30 60 none (defBody s_number) = some w_number := by kernel_rfl
theorem sc_number : FnScope N_number P_number (defScope s_number) := ⟨rfl, rfl, rfl, by decide +kernel, rfl, by decide +kernel, by decide +kernel⟩
theorem ln_number : ∀ ds μ Q E, sp_number ds μ Q E → ds.length = P_number.length := by
  intro ds μ Q E h
  unfold sp_number at h
  repeat (first | (obtain ⟨rfl, _⟩ := h; rfl; done) | (obtain ⟨_, h⟩ := h))
theorem ok_number (B : Fk w K mg base) {f : Addr} {fd : FuncData} (F : FunD K d_number.name d_number.qual d_number.params d_number.body d_number.scope (d_number.dvs K) (d_number.kws K) f fd) : FnOk PG w K mg base (L2.CX PG w) 6 f fd P_number (liftSp K (xct K cs) sp_number) :=
  fnOk F sc_number (B.b.gam (k := 5) (fs := [⟨"_law_take", 2, [], false, sp_take⟩, ⟨"_law_chance", 2, [], false, sp_chance⟩]) (by decide) (AllF.cons ((at_take B).mono (by decide)) (AllF.cons ((at_chance B).mono (by decide)) AllF.nil))) tr_number ln_number pf_number
theorem at_number (B : Fk w K mg base) : FnAt PG w K mg base (xct K cs) 6 "_law_number" 3 [] sp_number := by
  obtain ⟨fd, F⟩ := B.c.def_ 4 (d := d_number) rfl
  exact FnAt.of (B.glo "_law_number" (by simp [fa])) F.kp (FunD.bindsN (ps := P_number) F fun _ _ _ _ _ _ us hl => match us, hl with | [_, _, _], _ => rfl) (ok_number B F)
abbrev s_bad_number : Stmt := top 35
theorem tr_bad_number : trSN (GG [⟨"_law_take", 2, [], false, sp_take⟩]) N_bad_number (defScope s_bad_number) [] false 30 60 none (defBody s_bad_number) = some w_bad_number := by kernel_rfl
theorem sc_bad_number : FnScope N_bad_number P_bad_number (defScope s_bad_number) := ⟨rfl, rfl, rfl, by decide +kernel, rfl, by decide +kernel, by decide +kernel⟩
theorem ln_bad_number : ∀ ds μ Q E, sp_bad_number ds μ Q E → ds.length = P_bad_number.length := by
  intro ds μ Q E h
  unfold sp_bad_number at h
  repeat (first | (obtain ⟨rfl, _⟩ := h; rfl; done) | (obtain ⟨_, h⟩ := h))
theorem ok_bad_number (B : Fk w K mg base) {f : Addr} {fd : FuncData} (F : FunD K d_bad_number.name d_bad_number.qual d_bad_number.params d_bad_number.body d_bad_number.scope (d_bad_number.dvs K) (d_bad_number.kws K) f fd) : FnOk PG w K mg base (L2.CX PG w) 5 f fd P_bad_number (liftSp K (xct K cs) sp_bad_number) :=
  fnOk F sc_bad_number (B.b.gam (k := 4) (fs := [⟨"_law_take", 2, [], false, sp_take⟩]) (by decide) (AllF.cons ((at_take B).mono (by decide)) AllF.nil)) tr_bad_number ln_bad_number pf_bad_number
theorem at_bad_number (B : Fk w K mg base) : FnAt PG w K mg base (xct K cs) 5 "_law_bad_number" 3 [] sp_bad_number := by
  obtain ⟨fd, F⟩ := B.c.def_ 5 (d := d_bad_number) rfl
  exact FnAt.of (B.glo "_law_bad_number" (by simp [fa])) F.kp (FunD.bindsN (ps := P_bad_number) F fun _ _ _ _ _ _ us hl => match us, hl with | [_, _, _], _ => rfl) (ok_bad_number B F)
abbrev s_store : Stmt := top 29
theorem tr_store : trSN (GG []) N_store (defScope s_store) [] true 30 60 none (defBody s_store) = some w_store := by kernel_rfl
theorem sc_store : FnScope N_store P_store (defScope s_store) := ⟨rfl, rfl, rfl, by decide +kernel, rfl, by decide +kernel, by decide +kernel⟩
theorem ln_store : ∀ ds μ Q E, sp_store ds μ Q E → ds.length = P_store.length := by
  intro ds μ Q E h
  unfold sp_store at h
  repeat (first | (obtain ⟨rfl, _⟩ := h; rfl; done) | (obtain ⟨_, h⟩ := h))
theorem ok_store (B : Fk w K mg base) {f : Addr} {fd : FuncData} (F : FunD K d_store.name d_store.qual d_store.params d_store.body d_store.scope (d_store.dvs K) (d_store.kws K) f fd) : FnOk PG w K mg base (L2.CX PG w) 3 f fd P_store (liftSp K (xct K cs) sp_store) :=
  fnOk F sc_store (B.b.gam (k := 2) (fs := []) (by decide) AllF.nil) tr_store ln_store pf_store
theorem at_store (B : Fk w K mg base) : FnAt PG w K mg base (xct K cs) 3 "_law_store" 1 [] sp_store := by
  obtain ⟨fd, F⟩ := B.c.def_ 6 (d := d_store) rfl
  exact FnAt.of (B.glo "_law_store" (by simp [fa])) F.kp (FunD.bindsN (ps := P_store) F fun _ _ _ _ _ _ us hl => match us, hl with | [_], _ => rfl) (ok_store B F)
abbrev s_same_a0 : Stmt := top 36
theorem tr_same_a0 : trSN (GG [⟨"_law_same_rows", 2, [], false, sp_no⟩, ⟨"_law_same_dicts", 2, [], false, sp_no⟩]) N_same_a0 (defScope s_same_a0) [] false 30 60 none (defBody s_same_a0) = some w_same_a0 := by kernel_rfl
theorem sc_same_a0 : FnScope N_same_a0 P_same_a0 (defScope s_same_a0) := ⟨rfl, rfl, rfl, by decide +kernel, rfl, by decide +kernel, by decide +kernel⟩
theorem ok_same_a0 (B : Fk w K mg base) {f : Addr} {fd : FuncData} (F : FunD K d_same.name d_same.qual d_same.params d_same.body d_same.scope (d_same.dvs K) (d_same.kws K) f fd) : FnOk PG w K mg base (L2.CX PG w) 3 f fd P_same_a0 (liftSp K (xct K cs) sp_same_a0) :=
  fnOk F sc_same_a0 (B.b.gam (k := 2) (fs := [⟨"_law_same_rows", 2, [], false, sp_no⟩, ⟨"_law_same_dicts", 2, [], false, sp_no⟩]) (by decide) (AllF.cons (B.no (d := d_same_rows) 8 rfl (by simp [fa])) (AllF.cons (B.no (d := d_same_dicts) 31 rfl (by simp [fa])) AllF.nil))) tr_same_a0 ln_same_a0 pf_same_a0
theorem at_same_a0 (B : Fk w K mg base) : FnAt PG w K mg base (xct K cs) 3 "_law_same" 2 [] sp_same_a0 := by
  obtain ⟨fd, F⟩ := B.c.def_ 7 (d := d_same) rfl
  exact FnAt.of (B.glo "_law_same" (by simp [fa])) F.kp (FunD.bindsN (ps := P_same_a0) F fun _ _ _ _ _ _ us hl => match us, hl with | [_, _], _ => rfl) (ok_same_a0 B F)
abbrev s_rows_a0 : Stmt := top 37
theorem tr_rows_a0 : trSN (GG [⟨"_law_same", 2, [], false, sp_same_a0⟩]) N_rows_a0 (defScope s_rows_a0) [] false 30 60 none (defBody s_rows_a0) = some w_rows_a0 := by kernel_rfl
theorem sc_rows_a0 : FnScope N_rows_a0 P_rows_a0 (defScope s_rows_a0) := ⟨rfl, rfl, rfl, by decide +kernel, rfl, by decide +kernel, by decide +kernel⟩
theorem ok_rows_a0 (B : Fk w K mg base) {f : Addr} {fd : FuncData} (F : FunD K d_same_rows.name d_same_rows.qual d_same_rows.params d_same_rows.body d_same_rows.scope (d_same_rows.dvs K) (d_same_rows.kws K) f fd) : FnOk PG w K mg base (L2.CX PG w) 4 f fd P_rows_a0 (liftSp K (xct K cs) sp_rows_a0) :=
  fnOk F sc_rows_a0 (B.b.gam (k := 3) (fs := [⟨"_law_same", 2, [], false, sp_same_a0⟩]) (by decide) (AllF.cons ((at_same_a0 B).mono (by decide)) AllF.nil)) tr_rows_a0 ln_rows_a0 pf_rows_a0
theorem at_rows_a0 (B : Fk w K mg base) : FnAt PG w K mg base (xct K cs) 4 "_law_same_rows" 2 [] sp_rows_a0 := by
  obtain ⟨fd, F⟩ := B.c.def_ 8 (d := d_same_rows) rfl
  exact FnAt.of (B.glo "_law_same_rows" (by simp [fa])) F.kp (FunD.bindsN (ps := P_rows_a0) F fun _ _ _ _ _ _ us hl => match us, hl with | [_, _], _ => rfl) (ok_rows_a0 B F)
abbrev s_same_a1 : Stmt := top 36
theorem tr_same_a1 : trSN (GG [⟨"_law_same_rows", 2, [], false, sp_rows_a0⟩, ⟨"_law_same_dicts", 2, [], false, sp_no⟩]) N_same_a1 (defScope s_same_a1) [] false 30 60 none (defBody s_same_a1) = some w_same_a1 := by kernel_rfl
theorem sc_same_a1 : FnScope N_same_a1 P_same_a1 (defScope s_same_a1) := ⟨rfl, rfl, rfl, by decide +kernel, rfl, by decide +kernel, by decide +kernel⟩
theorem ok_same_a1 (B : Fk w K mg base) {f : Addr} {fd : FuncData} (F : FunD K d_same.name d_same.qual d_same.params d_same.body d_same.scope (d_same.dvs K) (d_same.kws K) f fd) : FnOk PG w K mg base (L2.CX PG w) 5 f fd P_same_a1 (liftSp K (xct K cs) sp_same_a1) :=
  fnOk F sc_same_a1 (B.b.gam (k := 4) (fs := [⟨"_law_same_rows", 2, [], false, sp_rows_a0⟩, ⟨"_law_same_dicts", 2, [], false, sp_no⟩]) (by decide) (AllF.cons ((at_rows_a0 B).mono (by decide)) (AllF.cons (B.no (d := d_same_dicts) 31 rfl (by simp [fa])) AllF.nil))) tr_same_a1 ln_same_a1 pf_same_a1
theorem at_same_a1 (B : Fk w K mg base) : FnAt PG w K mg base (xct K cs) 5 "_law_same" 2 [] sp_same_a1 := by
  obtain ⟨fd, F⟩ := B.c.def_ 7 (d := d_same) rfl
  exact FnAt.of (B.glo "_law_same" (by simp [fa])) F.kp (FunD.bindsN (ps := P_same_a1) F fun _ _ _ _ _ _ us hl => match us, hl with | [_, _], _ => rfl) (ok_same_a1 B F)
abbrev s_rows_a1 : Stmt := top 37
theorem tr_rows_a1 : trSN (GG [⟨"_law_same", 2, [], false, sp_same_a1⟩]) N_rows_a1 (defScope s_rows_a1) [] false 30 60 none (defBody s_rows_a1) = some w_rows_a1 := by kernel_rfl
theorem sc_rows_a1 : FnScope N_rows_a1 P_rows_a1 (defScope s_rows_a1) := ⟨rfl, rfl, rfl, by decide +kernel, rfl, by decide +kernel, by decide +kernel⟩
theorem ok_rows_a1 (B : Fk w K mg base) {f : Addr} {fd : FuncData} (F : FunD K d_same_rows.name d_same_rows.qual d_same_rows.params d_same_rows.body d_same_rows.scope (d_same_rows.dvs K) (d_same_rows.kws K) f fd) : FnOk PG w K mg base (L2.CX PG w) 6 f fd P_rows_a1 (liftSp K (xct K cs) sp_rows_a1) :=
  fnOk F sc_rows_a1 (B.b.gam (k := 5) (fs := [⟨"_law_same", 2, [], false, sp_same_a1⟩]) (by decide) (AllF.cons ((at_same_a1 B).mono (by decide)) AllF.nil)) tr_rows_a1 ln_rows_a1 pf_rows_a1
theorem at_rows_a1 (B : Fk w K mg base) : FnAt PG w K mg base (xct K cs) 6 "_law_same_rows" 2 [] sp_rows_a1 := by
  obtain ⟨fd, F⟩ := B.c.def_ 8 (d := d_same_rows) rfl
  exact FnAt.of (B.glo "_law_same_rows" (by simp [fa])) F.kp (FunD.bindsN (ps := P_rows_a1) F fun _ _ _ _ _ _ us hl => match us, hl with | [_, _], _ => rfl) (ok_rows_a1 B F)
abbrev s_same_a2 : Stmt := top 36
theorem tr_same_a2 : trSN (GG [⟨"_law_same_rows", 2, [], false, sp_rows_a1⟩, ⟨"_law_same_dicts", 2, [], false, sp_no⟩]) N_same_a2 (defScope s_same_a2) [] false 30 60 none (defBody s_same_a2) = some w_same_a2 := by kernel_rfl
theorem sc_same_a2 : FnScope N_same_a2 P_same_a2 (defScope s_same_a2) := ⟨rfl, rfl, rfl, by decide +kernel, rfl, by decide +kernel, by decide +kernel⟩
theorem ok_same_a2 (B : Fk w K mg base) {f : Addr} {fd : FuncData} (F : FunD K d_same.name d_same.qual d_same.params d_same.body d_same.scope (d_same.dvs K) (d_same.kws K) f fd) : FnOk PG w K mg base (L2.CX PG w) 7 f fd P_same_a2 (liftSp K (xct K cs) sp_same_a2) :=
  fnOk F sc_same_a2 (B.b.gam (k := 6) (fs := [⟨"_law_same_rows", 2, [], false, sp_rows_a1⟩, ⟨"_law_same_dicts", 2, [], false, sp_no⟩]) (by decide) (AllF.cons ((at_rows_a1 B).mono (by decide)) (AllF.cons (B.no (d := d_same_dicts) 31 rfl (by simp [fa])) AllF.nil))) tr_same_a2 ln_same_a2 pf_same_a2
theorem at_same_a2 (B : Fk w K mg base) : FnAt PG w K mg base (xct K cs) 7 "_law_same" 2 [] sp_same_a2 := by
  obtain ⟨fd, F⟩ := B.c.def_ 7 (d := d_same) rfl
  exact FnAt.of (B.glo "_law_same" (by simp [fa])) F.kp (FunD.bindsN (ps := P_same_a2) F fun _ _ _ _ _ _ us hl => match us, hl with | [_, _], _ => rfl) (ok_same_a2 B F)
abbrev s_rows_a2 : Stmt := top 37
theorem tr_rows_a2 : trSN (GG [⟨"_law_same", 2, [], false, sp_same_a2⟩]) N_rows_a2 (defScope s_rows_a2) [] false 30 60 none (defBody s_rows_a2) = some w_rows_a2 := by kernel_rfl
theorem sc_rows_a2 : FnScope N_rows_a2 P_rows_a2 (defScope s_rows_a2) := ⟨rfl, rfl, rfl, by decide +kernel, rfl, by decide +kernel, by decide +kernel⟩
theorem ok_rows_a2 (B : Fk w K mg base) {f : Addr} {fd : FuncData} (F : FunD K d_same_rows.name d_same_rows.qual d_same_rows.params d_same_rows.body d_same_rows.scope (d_same_rows.dvs K) (d_same_rows.kws K) f fd) : FnOk PG w K mg base (L2.CX PG w) 8 f fd P_rows_a2 (liftSp K (xct K cs) sp_rows_a2) :=
  fnOk F sc_rows_a2 (B.b.gam (k := 7) (fs := [⟨"_law_same", 2, [], false, sp_same_a2⟩]) (by decide) (AllF.cons ((at_same_a2 B).mono (by decide)) AllF.nil)) tr_rows_a2 ln_rows_a2 pf_rows_a2
theorem at_rows_a2 (B : Fk w K mg base) : FnAt PG w K mg base (xct K cs) 8 "_law_same_rows" 2 [] sp_rows_a2 := by
  obtain ⟨fd, F⟩ := B.c.def_ 8 (d := d_same_rows) rfl
  exact FnAt.of (B.glo "_law_same_rows" (by simp [fa])) F.kp (FunD.bindsN (ps := P_rows_a2) F fun _ _ _ _ _ _ us hl => match us, hl with | [_, _], _ => rfl) (ok_rows_a2 B F)
abbrev s_same_a3 : Stmt := top 36
theorem tr_same_a3 : trSN (GG [⟨"_law_same_rows", 2, [], false, sp_rows_a2⟩, ⟨"_law_same_dicts", 2, [], false, sp_no⟩]) N_same_a3 (defScope s_same_a3) [] false 30 60 none (defBody s_same_a3) = some w_same_a3 := by kernel_rfl
theorem sc_same_a3 : FnScope N_same_a3 P_same_a3 (defScope s_same_a3) := ⟨rfl, rfl, rfl, by decide +kernel, rfl, by decide +kernel, by decide +kernel⟩
theorem ok_same_a3 (B : Fk w K mg base) {f : Addr} {fd : FuncData} (F : FunD K d_same.name d_same.qual d_same.params d_same.body d_same.scope (d_same.dvs K) (d_same.kws K) f fd) : FnOk PG w K mg base (L2.CX PG w) 9 f fd P_same_a3 (liftSp K (xct K cs) sp_same_a3) :=
  fnOk F sc_same_a3 (B.b.gam (k := 8) (fs := [⟨"_law_same_rows", 2, [], false, sp_rows_a2⟩, ⟨"_law_same_dicts", 2, [], false, sp_no⟩]) (by decide) (AllF.cons ((at_rows_a2 B).mono (by decide)) (AllF.cons (B.no (d := d_same_dicts) 31 rfl (by simp [fa])) AllF.nil))) tr_same_a3 ln_same_a3 pf_same_a3
theorem at_same_a3 (B : Fk w K mg base) : FnAt PG w K mg base (xct K cs) 9 "_law_same" 2 [] sp_same_a3 := by
  obtain ⟨fd, F⟩ := B.c.def_ 7 (d := d_same) rfl
  exact FnAt.of (B.glo "_law_same" (by simp [fa])) F.kp (FunD.bindsN (ps := P_same_a3) F fun _ _ _ _ _ _ us hl => match us, hl with | [_, _], _ => rfl) (ok_same_a3 B F)
abbrev s_m_is_number : Stmt := top 7
theorem tr_m_is_number : trSN (GG []) N_m_is_number (defScope s_m_is_number) [] false 30 60 none (defBody s_m_is_number) = some w_m_is_number := by kernel_rfl
theorem sc_m_is_number : FnScope N_m_is_number P_m_is_number (defScope s_m_is_number) := ⟨rfl, rfl, rfl, by decide +kernel, rfl, by decide +kernel, by decide +kernel⟩
theorem ln_m_is_number : ∀ ds μ Q E, sp_m_is_number ds μ Q E → ds.length = P_m_is_number.length := by
  intro ds μ Q E h
  unfold sp_m_is_number at h
  repeat (first | (obtain ⟨rfl, _⟩ := h; rfl; done) | (obtain ⟨_, h⟩ := h))
theorem ok_m_is_number (B : Fk w K mg base) {f : Addr} {fd : FuncData} (F : FunD K d_m_is_number.name d_m_is_number.qual d_m_is_number.params d_m_is_number.body d_m_is_number.scope (d_m_is_number.dvs K) (d_m_is_number.kws K) f fd) : FnOk PG w K mg base (L2.CX PG w) 3 f fd P_m_is_number (liftSp K (xct K cs) sp_m_is_number) :=
  fnOk F sc_m_is_number (B.b.gam (k := 2) (fs := []) (by decide) AllF.nil) tr_m_is_number ln_m_is_number pf_m_is_number
theorem at_m_is_number (B : Fk w K mg base) : FnAt PG w K mg base (xct K cs) 3 "is_number" 1 [] sp_m_is_number := by
  obtain ⟨fd, F⟩ := B.c.def_ 9 (d := d_m_is_number) rfl
  exact FnAt.of (B.glo "is_number" (by simp [fa])) F.kp (FunD.bindsN (ps := P_m_is_number) F fun _ _ _ _ _ _ us hl => match us, hl with | [_], _ => rfl) (ok_m_is_number B F)
abbrev s_m_check_number : Stmt := top 8
theorem tr_m_check_number : trSN (GG [⟨"is_number", 1, [], false, sp_m_is_number⟩]) N_m_check_number (defScope s_m_check_number) [] false 30 60 none (defBody s_m_check_number) = some w_m_check_number := by kernel_rfl
theorem sc_m_check_number : FnScope N_m_check_number P_m_check_number (defScope s_m_check_number) := ⟨rfl, rfl, rfl, by decide +kernel, rfl, by decide +kernel, by decide +kernel⟩
theorem ln_m_check_number : ∀ ds μ Q E, sp_m_check_number ds μ Q E → ds.length = P_m_check_number.length := by
  intro ds μ Q E h
  unfold sp_m_check_number at h
  repeat (first | (obtain ⟨rfl, _⟩ := h; rfl; done) | (obtain ⟨_, h⟩ := h))
theorem ok_m_check_number (B : Fk w K mg base) {f : Addr} {fd : FuncData} (F : FunD K d_m_check_number.name d_m_check_number.qual d_m_check_number.params d_m_check_number.body d_m_check_number.scope (d_m_check_number.dvs K) (d_m_check_number.kws K) f fd) : FnOk PG w K mg base (L2.CX PG w) 4 f fd P_m_check_number (liftSp K (xct K cs) sp_m_check_number) :=
  fnOk F sc_m_check_number (B.b.gam (k := 3) (fs := [⟨"is_number", 1, [], false, sp_m_is_number⟩]) (by decide) (AllF.cons ((at_m_is_number B).mono (by decide)) AllF.nil)) tr_m_check_number ln_m_check_number pf_m_check_number
theorem at_m_check_number (B : Fk w K mg base) : FnAt PG w K mg base (xct K cs) 4 "check_number" 4 [] sp_m_check_number := by
  obtain ⟨fd, F⟩ := B.c.def_ 10 (d := d_m_check_number) rfl
  exact FnAt.of (B.glo "check_number" (by simp [fa])) F.kp (FunD.bindsN (ps := P_m_check_number) F fun _ _ _ _ _ _ us hl => match us, hl with | [_, _, _, _], _ => rfl) (ok_m_check_number B F)
abbrev s_m_check_three : Stmt := top 19
theorem tr_m_check_three : trSN (GG [⟨"check_number", 4, [], false, sp_m_check_number⟩]) N_m_check_three (defScope s_m_check_three) [] false 30 60 none (defBody s_m_check_three) = some w_m_check_three := by kernel_rfl
theorem sc_m_check_three : FnScope N_m_check_three P_m_check_three (defScope s_m_check_three) := ⟨rfl, rfl, rfl, by decide +kernel, rfl, by decide +kernel, by decide +kernel⟩
theorem ln_m_check_three : ∀ ds μ Q E, sp_m_check_three ds μ Q E → ds.length = P_m_check_three.length := by
  intro ds μ Q E h
  unfold sp_m_check_three at h
  repeat (first | (obtain ⟨rfl, _⟩ := h; rfl; done) | (obtain ⟨_, h⟩ := h))
theorem ok_m_check_three (B : Fk w K mg base) {f : Addr} {fd : FuncData} (F : FunD K d_m_check_three.name d_m_check_three.qual d_m_check_three.params d_m_check_three.body d_m_check_three.scope (d_m_check_three.dvs K) (d_m_check_three.kws K) f fd) : FnOk PG w K mg base (L2.CX PG w) 5 f fd P_m_check_three (liftSp K (xct K cs) sp_m_check_three) :=
  fnOk F sc_m_check_three (B.b.gam (k := 4) (fs := [⟨"check_number", 4, [], false, sp_m_check_number⟩]) (by decide) (AllF.cons ((at_m_check_number B).mono (by decide)) AllF.nil)) tr_m_check_three ln_m_check_three pf_m_check_three
theorem at_m_check_three (B : Fk w K mg base) : FnAt PG w K mg base (xct K cs) 5 "check_three" 4 [] sp_m_check_three := by
  obtain ⟨fd, F⟩ := B.c.def_ 11 (d := d_m_check_three) rfl
  exact FnAt.of (B.glo "check_three" (by simp [fa])) F.kp (FunD.bindsN (ps := P_m_check_three) F fun _ _ _ _ _ _ us hl => match us, hl with | [_, _, _, _], _ => rfl) (ok_m_check_three B F)
abbrev s_m_check_sums : Stmt := top 20
theorem tr_m_check_sums : trSN (GG []) N_m_check_sums (defScope s_m_check_sums) [] false 30 60 none (defBody s_m_check_sums) = some w_m_check_sums := by kernel_rfl
theorem sc_m_check_sums : FnScope N_m_check_sums P_m_check_sums (defScope s_m_check_sums) := ⟨rfl, rfl, rfl, by decide +kernel, rfl, by decide +kernel, by decide +kernel⟩
theorem ln_m_check_sums : ∀ ds μ Q E, sp_m_check_sums ds μ Q E → ds.length = P_m_check_sums.length := by
  intro ds μ Q E h
  unfold sp_m_check_sums at h
  repeat (first | (obtain ⟨rfl, _⟩ := h; rfl; done) | (obtain ⟨_, h⟩ := h))
theorem ok_m_check_sums (B : Fk w K mg base) {f : Addr} {fd : FuncData} (F : FunD K d_m_check_sums.name d_m_check_sums.qual d_m_check_sums.params d_m_check_sums.body d_m_check_sums.scope (d_m_check_sums.dvs K) (d_m_check_sums.kws K) f fd) : FnOk PG w K mg base (L2.CX PG w) 3 f fd P_m_check_sums (liftSp K (xct K cs) sp_m_check_sums) :=
  fnOk F sc_m_check_sums (B.b.gam (k := 2) (fs := []) (by decide) AllF.nil) tr_m_check_sums ln_m_check_sums pf_m_check_sums
theorem at_m_check_sums (B : Fk w K mg base) : FnAt PG w K mg base (xct K cs) 3 "check_sums" 3 [] sp_m_check_sums := by
  obtain ⟨fd, F⟩ := B.c.def_ 12 (d := d_m_check_sums) rfl
  exact FnAt.of (B.glo "check_sums" (by simp [fa])) F.kp (FunD.bindsN (ps := P_m_check_sums) F fun _ _ _ _ _ _ us hl => match us, hl with | [_, _, _], _ => rfl) (ok_m_check_sums B F)
abbrev s_m_check_race : Stmt := top 21
theorem tr_m_check_race : trSN (GG [⟨"check_sums", 3, [], false, sp_m_check_sums⟩, ⟨"check_three", 4, [], false, sp_m_check_three⟩]) N_m_check_race (defScope s_m_check_race) [] false 30 60 none (defBody s_m_check_race) = some w_m_check_race := by kernel_rfl
theorem sc_m_check_race : FnScope N_m_check_race P_m_check_race (defScope s_m_check_race) := ⟨rfl, rfl, rfl, by decide +kernel, rfl, by decide +kernel, by decide +kernel⟩
theorem ln_m_check_race : ∀ ds μ Q E, sp_m_check_race ds μ Q E → ds.length = P_m_check_race.length := by
  intro ds μ Q E h
  unfold sp_m_check_race at h
  repeat (first | (obtain ⟨rfl, _⟩ := h; rfl; done) | (obtain ⟨_, h⟩ := h))
theorem ok_m_check_race (B : Fk w K mg base) {f : Addr} {fd : FuncData} (F : FunD K d_m_check_race.name d_m_check_race.qual d_m_check_race.params d_m_check_race.body d_m_check_race.scope (d_m_check_race.dvs K) (d_m_check_race.kws K) f fd) : FnOk PG w K mg base (L2.CX PG w) 6 f fd P_m_check_race (liftSp K (xct K cs) sp_m_check_race) :=
  fnOk F sc_m_check_race (B.b.gam (k := 5) (fs := [⟨"check_sums", 3, [], false, sp_m_check_sums⟩, ⟨"check_three", 4, [], false, sp_m_check_three⟩]) (by decide) (AllF.cons ((at_m_check_sums B).mono (by decide)) (AllF.cons ((at_m_check_three B).mono (by decide)) AllF.nil))) tr_m_check_race ln_m_check_race pf_m_check_race
theorem at_m_check_race (B : Fk w K mg base) : FnAt PG w K mg base (xct K cs) 6 "check_race" 4 [] sp_m_check_race := by
  obtain ⟨fd, F⟩ := B.c.def_ 13 (d := d_m_check_race) rfl
  exact FnAt.of (B.glo "check_race" (by simp [fa])) F.kp (FunD.bindsN (ps := P_m_check_race) F fun _ _ _ _ _ _ us hl => match us, hl with | [_, _, _, _], _ => rfl) (ok_m_check_race B F)
abbrev s_m_race_step : Stmt := top 24
theorem tr_m_race_step : trSN (GG []) N_m_race_step (defScope s_m_race_step) [] false 30 60 none (defBody s_m_race_step) = some w_m_race_step := by kernel_rfl
theorem sc_m_race_step : FnScope N_m_race_step P_m_race_step (defScope s_m_race_step) := ⟨rfl, rfl, rfl, by decide +kernel, rfl, by decide +kernel, by decide +kernel⟩
theorem ln_m_race_step : ∀ ds μ Q E, sp_m_race_step ds μ Q E → ds.length = P_m_race_step.length := by
  intro ds μ Q E h
  unfold sp_m_race_step at h
  repeat (first | (obtain ⟨rfl, _⟩ := h; rfl; done) | (obtain ⟨_, h⟩ := h))
theorem ok_m_race_step (B : Fk w K mg base) {f : Addr} {fd : FuncData} (F : FunD K d_m_race_step.name d_m_race_step.qual d_m_race_step.params d_m_race_step.body d_m_race_step.scope (d_m_race_step.dvs K) (d_m_race_step.kws K) f fd) : FnOk PG w K mg base (L2.CX PG w) 3 f fd P_m_race_step (liftSp K (xct K cs) sp_m_race_step) :=
  fnOk F sc_m_race_step (B.b.gam (k := 2) (fs := []) (by decide) AllF.nil) tr_m_race_step ln_m_race_step pf_m_race_step
theorem at_m_race_step (B : Fk w K mg base) : FnAt PG w K mg base (xct K cs) 3 "race_step" 4 [] sp_m_race_step := by
  obtain ⟨fd, F⟩ := B.c.def_ 14 (d := d_m_race_step) rfl
  exact FnAt.of (B.glo "race_step" (by simp [fa])) F.kp (FunD.bindsN (ps := P_m_race_step) F fun _ _ _ _ _ _ us hl => match us, hl with | [_, _, _, _], _ => rfl) (ok_m_race_step B F)
abbrev s_m_value_by_rule : Stmt := top 22
theorem tr_m_value_by_rule : trSN (GG []) N_m_value_by_rule (defScope s_m_value_by_rule) [] false 30 60 none (defBody s_m_value_by_rule) = some w_m_value_by_rule := by kernel_rfl
theorem sc_m_value_by_rule : FnScope N_m_value_by_rule P_m_value_by_rule (defScope s_m_value_by_rule) := ⟨rfl, rfl, rfl, by decide +kernel, rfl, by decide +kernel, by decide +kernel⟩
theorem ln_m_value_by_rule : ∀ ds μ Q E, sp_m_value_by_rule ds μ Q E → ds.length = P_m_value_by_rule.length := by
  intro ds μ Q E h
  unfold sp_m_value_by_rule at h
  repeat (first | (obtain ⟨rfl, _⟩ := h; rfl; done) | (obtain ⟨_, h⟩ := h))
theorem ok_m_value_by_rule (B : Fk w K mg base) {f : Addr} {fd : FuncData} (F : FunD K d_m_value_by_rule.name d_m_value_by_rule.qual d_m_value_by_rule.params d_m_value_by_rule.body d_m_value_by_rule.scope (d_m_value_by_rule.dvs K) (d_m_value_by_rule.kws K) f fd) : FnOk PG w K mg base (L2.CX PG w) 3 f fd P_m_value_by_rule (liftSp K (xct K cs) sp_m_value_by_rule) :=
  fnOk F sc_m_value_by_rule (B.b.gam (k := 2) (fs := []) (by decide) AllF.nil) tr_m_value_by_rule ln_m_value_by_rule pf_m_value_by_rule
theorem at_m_value_by_rule (B : Fk w K mg base) : FnAt PG w K mg base (xct K cs) 3 "value_by_rule" 4 [] sp_m_value_by_rule := by
  obtain ⟨fd, F⟩ := B.c.def_ 15 (d := d_m_value_by_rule) rfl
  exact FnAt.of (B.glo "value_by_rule" (by simp [fa])) F.kp (FunD.bindsN (ps := P_m_value_by_rule) F fun _ _ _ _ _ _ us hl => match us, hl with | [_, _, _, _], _ => rfl) (ok_m_value_by_rule B F)
abbrev s_m_race_value : Stmt := top 25
theorem tr_m_race_value : trSN (GG [⟨"value_by_rule", 4, [], false, sp_m_value_by_rule⟩, ⟨"check_race", 4, [], false, sp_m_check_race⟩]) N_m_race_value (defScope s_m_race_value) [] false 30 60 none (defBody s_m_race_value) = some w_m_race_value := by kernel_rfl
theorem sc_m_race_value : FnScope N_m_race_value P_m_race_value (defScope s_m_race_value) := ⟨rfl, rfl, rfl, by decide +kernel, rfl, by decide +kernel, by decide +kernel⟩
theorem ln_m_race_value : ∀ ds μ Q E, sp_m_race_value ds μ Q E → ds.length = P_m_race_value.length := by
  intro ds μ Q E h
  unfold sp_m_race_value at h
  repeat (first | (obtain ⟨rfl, _⟩ := h; rfl; done) | (obtain ⟨_, h⟩ := h))
theorem ok_m_race_value (B : Fk w K mg base) {f : Addr} {fd : FuncData} (F : FunD K d_m_race_value.name d_m_race_value.qual d_m_race_value.params d_m_race_value.body d_m_race_value.scope (d_m_race_value.dvs K) (d_m_race_value.kws K) f fd) : FnOk PG w K mg base (L2.CX PG w) 7 f fd P_m_race_value (liftSp K (xct K cs) sp_m_race_value) :=
  fnOk F sc_m_race_value (B.b.gam (k := 6) (fs := [⟨"value_by_rule", 4, [], false, sp_m_value_by_rule⟩, ⟨"check_race", 4, [], false, sp_m_check_race⟩]) (by decide) (AllF.cons ((at_m_value_by_rule B).mono (by decide)) (AllF.cons ((at_m_check_race B).mono (by decide)) AllF.nil))) tr_m_race_value ln_m_race_value pf_m_race_value
theorem at_m_race_value (B : Fk w K mg base) : FnAt PG w K mg base (xct K cs) 7 "race_value" 3 ["after_pass"] sp_m_race_value := by
  obtain ⟨fd, F⟩ := B.c.def_ 16 (d := d_m_race_value) rfl
  obtain ⟨mv, hb⟩ := FunD.kbinds0 (ps := P_m_race_value) F 3 ["after_pass"] [] (fun us mv ws => us ++ ws) (by simp [He.DefD.kws, d_m_race_value]) (fun _ h => by cases h) (fun r1 _ r3 => r1.append r3) (fun D doc pm an cdv ct us mv ws h1 h2 h3 => match us, mv, ws, h1, h2, h3 with | [_, _, _], [], [_], _, _, _ => rfl)
  exact FnAt.ofK (gD := id) (B.glo "race_value" (by simp [fa])) F.kp hb (fun F ds vs zs h1 h2 h => h) (ok_m_race_value B F)
abbrev s_m_best_by_rule : Stmt := top 23
theorem tr_m_best_by_rule : trSN (GG [⟨"value_by_rule", 4, [], false, sp_m_value_by_rule⟩]) N_m_best_by_rule (defScope s_m_best_by_rule) [] false 30 60 none (defBody s_m_best_by_rule) = some w_m_best_by_rule := by kernel_rfl
theorem sc_m_best_by_rule : FnScope N_m_best_by_rule P_m_best_by_rule (defScope s_m_best_by_rule) := ⟨rfl, rfl, rfl, by decide +kernel, rfl, by decide +kernel, by decide +kernel⟩
theorem ln_m_best_by_rule : ∀ ds μ Q E, sp_m_best_by_rule ds μ Q E → ds.length = P_m_best_by_rule.length := by
  intro ds μ Q E h
  unfold sp_m_best_by_rule at h
  repeat (first | (obtain ⟨rfl, _⟩ := h; rfl; done) | (obtain ⟨_, h⟩ := h))
theorem ok_m_best_by_rule (B : Fk w K mg base) {f : Addr} {fd : FuncData} (F : FunD K d_m_best_by_rule.name d_m_best_by_rule.qual d_m_best_by_rule.params d_m_best_by_rule.body d_m_best_by_rule.scope (d_m_best_by_rule.dvs K) (d_m_best_by_rule.kws K) f fd) : FnOk PG w K mg base (L2.CX PG w) 4 f fd P_m_best_by_rule (liftSp K (xct K cs) sp_m_best_by_rule) :=
  fnOk F sc_m_best_by_rule (B.b.gam (k := 3) (fs := [⟨"value_by_rule", 4, [], false, sp_m_value_by_rule⟩]) (by decide) (AllF.cons ((at_m_value_by_rule B).mono (by decide)) AllF.nil)) tr_m_best_by_rule ln_m_best_by_rule pf_m_best_by_rule
theorem at_m_best_by_rule (B : Fk w K mg base) : FnAt PG w K mg base (xct K cs) 4 "best_by_rule" 4 [] sp_m_best_by_rule := by
  obtain ⟨fd, F⟩ := B.c.def_ 17 (d := d_m_best_by_rule) rfl
  exact FnAt.of (B.glo "best_by_rule" (by simp [fa])) F.kp (FunD.bindsN (ps := P_m_best_by_rule) F fun _ _ _ _ _ _ us hl => match us, hl with | [_, _, _, _], _ => rfl) (ok_m_best_by_rule B F)
abbrev s_m_race_best : Stmt := top 26
theorem tr_m_race_best : trSN (GG [⟨"best_by_rule", 4, [], false, sp_m_best_by_rule⟩, ⟨"check_race", 4, [], false, sp_m_check_race⟩]) N_m_race_best (defScope s_m_race_best) [] false 30 60 none (defBody s_m_race_best) = some w_m_race_best := by kernel_rfl
theorem sc_m_race_best : FnScope N_m_race_best P_m_race_best (defScope s_m_race_best) := ⟨rfl, rfl, rfl, by decide +kernel, rfl, by decide +kernel, by decide +kernel⟩
theorem ln_m_race_best : ∀ ds μ Q E, sp_m_race_best ds μ Q E → ds.length = P_m_race_best.length := by
  intro ds μ Q E h
  unfold sp_m_race_best at h
  repeat (first | (obtain ⟨rfl, _⟩ := h; rfl; done) | (obtain ⟨_, h⟩ := h))
theorem ok_m_race_best (B : Fk w K mg base) {f : Addr} {fd : FuncData} (F : FunD K d_m_race_best.name d_m_race_best.qual d_m_race_best.params d_m_race_best.body d_m_race_best.scope (d_m_race_best.dvs K) (d_m_race_best.kws K) f fd) : FnOk PG w K mg base (L2.CX PG w) 7 f fd P_m_race_best (liftSp K (xct K cs) sp_m_race_best) :=
  fnOk F sc_m_race_best (B.b.gam (k := 6) (fs := [⟨"best_by_rule", 4, [], false, sp_m_best_by_rule⟩, ⟨"check_race", 4, [], false, sp_m_check_race⟩]) (by decide) (AllF.cons ((at_m_best_by_rule B).mono (by decide)) (AllF.cons ((at_m_check_race B).mono (by decide)) AllF.nil))) tr_m_race_best ln_m_race_best pf_m_race_best
theorem at_m_race_best (B : Fk w K mg base) : FnAt PG w K mg base (xct K cs) 7 "race_best" 3 ["after_pass"] sp_m_race_best := by
  obtain ⟨fd, F⟩ := B.c.def_ 18 (d := d_m_race_best) rfl
  obtain ⟨mv, hb⟩ := FunD.kbinds0 (ps := P_m_race_best) F 3 ["after_pass"] [] (fun us mv ws => us ++ ws) (by simp [He.DefD.kws, d_m_race_best]) (fun _ h => by cases h) (fun r1 _ r3 => r1.append r3) (fun D doc pm an cdv ct us mv ws h1 h2 h3 => match us, mv, ws, h1, h2, h3 with | [_, _, _], [], [_], _, _, _ => rfl)
  exact FnAt.ofK (gD := id) (B.glo "race_best" (by simp [fa])) F.kp hb (fun F ds vs zs h1 h2 h => h) (ok_m_race_best B F)
abbrev s_m_race_line : Stmt := top 27
theorem tr_m_race_line : trSN (GG [⟨"race_step", 4, [], false, sp_m_race_step⟩, ⟨"best_by_rule", 4, [], false, sp_m_best_by_rule⟩, ⟨"check_race", 4, [], false, sp_m_check_race⟩]) N_m_race_line (defScope s_m_race_line) ["deeds"] false 30 60 none (defBody s_m_race_line) = some w_m_race_line := by kernel_rfl
theorem sc_m_race_line : FnScope N_m_race_line P_m_race_line (defScope s_m_race_line) := ⟨rfl, rfl, rfl, by decide +kernel, rfl, by decide +kernel, by decide +kernel⟩
theorem ln_m_race_line : ∀ ds μ Q E, sp_m_race_line ds μ Q E → ds.length = P_m_race_line.length := by
  intro ds μ Q E h
  unfold sp_m_race_line at h
  repeat (first | (obtain ⟨rfl, _⟩ := h; rfl; done) | (obtain ⟨_, h⟩ := h))
theorem ok_m_race_line (B : Fk w K mg base) {f : Addr} {fd : FuncData} (F : FunD K d_m_race_line.name d_m_race_line.qual d_m_race_line.params d_m_race_line.body d_m_race_line.scope (d_m_race_line.dvs K) (d_m_race_line.kws K) f fd) : FnOk PG w K mg base (L2.CX PG w) 7 f fd P_m_race_line (liftSp K (xct K cs) sp_m_race_line) :=
  fnOk F sc_m_race_line (B.b.gam (k := 6) (fs := [⟨"race_step", 4, [], false, sp_m_race_step⟩, ⟨"best_by_rule", 4, [], false, sp_m_best_by_rule⟩, ⟨"check_race", 4, [], false, sp_m_check_race⟩]) (by decide) (AllF.cons ((at_m_race_step B).mono (by decide)) (AllF.cons ((at_m_best_by_rule B).mono (by decide)) (AllF.cons ((at_m_check_race B).mono (by decide)) AllF.nil)))) tr_m_race_line ln_m_race_line pf_m_race_line
theorem at_m_race_line (B : Fk w K mg base) : FnAt PG w K mg base (xct K cs) 7 "race_line" 3 [] sp_m_race_line := by
  obtain ⟨fd, F⟩ := B.c.def_ 19 (d := d_m_race_line) rfl
  exact FnAt.of (B.glo "race_line" (by simp [fa])) F.kp (FunD.bindsN (ps := P_m_race_line) F fun _ _ _ _ _ _ us hl => match us, hl with | [_, _, _], _ => rfl) (ok_m_race_line B F)
abbrev s_is_number : Stmt := top 41
theorem tr_is_number : trSN (GG []) N_is_number (defScope s_is_number) [] false 30 60 none (defBody s_is_number) = some w_is_number := by kernel_rfl
theorem sc_is_number : FnScope N_is_number P_is_number (defScope s_is_number) := ⟨rfl, rfl, rfl, by decide +kernel, rfl, by decide +kernel, by decide +kernel⟩
theorem ln_is_number : ∀ ds μ Q E, sp_is_number ds μ Q E → ds.length = P_is_number.length := by
  intro ds μ Q E h
  unfold sp_is_number at h
  repeat (first | (obtain ⟨rfl, _⟩ := h; rfl; done) | (obtain ⟨_, h⟩ := h))
theorem ok_is_number (B : Fk w K mg base) {f : Addr} {fd : FuncData} (F : FunD K d_is_number.name d_is_number.qual d_is_number.params d_is_number.body d_is_number.scope (d_is_number.dvs K) (d_is_number.kws K) f fd) : FnOk PG w K mg base (L2.CX PG w) 3 f fd P_is_number (liftSp K (xct K cs) sp_is_number) :=
  fnOk F sc_is_number (B.b.gam (k := 2) (fs := []) (by decide) AllF.nil) tr_is_number ln_is_number pf_is_number
theorem at_is_number (B : Fk w K mg base) : FnAt PG w K mg base (xct K cs) 3 "_law_is_number" 3 [] sp_is_number := by
  obtain ⟨fd, F⟩ := B.c.def_ 20 (d := d_is_number) rfl
  exact FnAt.of (B.glo "_law_is_number" (by simp [fa])) F.kp (FunD.bindsN (ps := P_is_number) F fun _ _ _ _ _ _ us hl => match us, hl with | [_, _, _], _ => rfl) (ok_is_number B F)
abbrev s_race_due : Stmt := top 42
theorem tr_race_due : trSN (GG [⟨"_law_is_number", 3, [], false, sp_is_number⟩]) N_race_due (defScope s_race_due) [] false 30 60 none (defBody s_race_due) = some w_race_due := by kernel_rfl
theorem sc_race_due : FnScope N_race_due P_race_due (defScope s_race_due) := ⟨rfl, rfl, rfl, by decide +kernel, rfl, by decide +kernel, by decide +kernel⟩
theorem ln_race_due : ∀ ds μ Q E, sp_race_due ds μ Q E → ds.length = P_race_due.length := by
  intro ds μ Q E h
  unfold sp_race_due at h
  repeat (first | (obtain ⟨rfl, _⟩ := h; rfl; done) | (obtain ⟨_, h⟩ := h))
theorem ok_race_due (B : Fk w K mg base) {f : Addr} {fd : FuncData} (F : FunD K d_race_due.name d_race_due.qual d_race_due.params d_race_due.body d_race_due.scope (d_race_due.dvs K) (d_race_due.kws K) f fd) : FnOk PG w K mg base (L2.CX PG w) 4 f fd P_race_due (liftSp K (xct K cs) sp_race_due) :=
  fnOk F sc_race_due (B.b.gam (k := 3) (fs := [⟨"_law_is_number", 3, [], false, sp_is_number⟩]) (by decide) (AllF.cons ((at_is_number B).mono (by decide)) AllF.nil)) tr_race_due ln_race_due pf_race_due
theorem at_race_due (B : Fk w K mg base) : FnAt PG w K mg base (xct K cs) 4 "_law_race_due" 4 [] sp_race_due := by
  obtain ⟨fd, F⟩ := B.c.def_ 21 (d := d_race_due) rfl
  exact FnAt.of (B.glo "_law_race_due" (by simp [fa])) F.kp (FunD.bindsN (ps := P_race_due) F fun _ _ _ _ _ _ us hl => match us, hl with | [_, _, _, _], _ => rfl) (ok_race_due B F)
abbrev s_race_value : Stmt := top 43
theorem tr_race_value : trSN (GG []) N_race_value (defScope s_race_value) [] false 30 60 none (defBody s_race_value) = some w_race_value := by kernel_rfl
theorem sc_race_value : FnScope N_race_value P_race_value (defScope s_race_value) := ⟨rfl, rfl, rfl, by decide +kernel, rfl, by decide +kernel, by decide +kernel⟩
theorem ln_race_value : ∀ ds μ Q E, sp_race_value ds μ Q E → ds.length = P_race_value.length := by
  intro ds μ Q E h
  unfold sp_race_value at h
  repeat (first | (obtain ⟨rfl, _⟩ := h; rfl; done) | (obtain ⟨_, h⟩ := h))
theorem ok_race_value (B : Fk w K mg base) {f : Addr} {fd : FuncData} (F : FunD K d_race_value.name d_race_value.qual d_race_value.params d_race_value.body d_race_value.scope (d_race_value.dvs K) (d_race_value.kws K) f fd) : FnOk PG w K mg base (L2.CX PG w) 3 f fd P_race_value (liftSp K (xct K cs) sp_race_value) :=
  fnOk F sc_race_value (B.b.gam (k := 2) (fs := []) (by decide) AllF.nil) tr_race_value ln_race_value pf_race_value
theorem at_race_value (B : Fk w K mg base) : FnAt PG w K mg base (xct K cs) 3 "_law_race_value" 4 [] sp_race_value := by
  obtain ⟨fd, F⟩ := B.c.def_ 22 (d := d_race_value) rfl
  exact FnAt.of (B.glo "_law_race_value" (by simp [fa])) F.kp (FunD.bindsN (ps := P_race_value) F fun _ _ _ _ _ _ us hl => match us, hl with | [_, _, _, _], _ => rfl) (ok_race_value B F)
abbrev s_race_after : Stmt := top 44
theorem tr_race_after : trSN (GG []) N_race_after (defScope s_race_after) [] false 30 60 none (defBody s_race_after) = some w_race_after := by kernel_rfl
theorem sc_race_after : FnScope N_race_after P_race_after (defScope s_race_after) := ⟨rfl, rfl, rfl, by decide +kernel, rfl, by decide +kernel, by decide +kernel⟩
theorem ln_race_after : ∀ ds μ Q E, sp_race_after ds μ Q E → ds.length = P_race_after.length := by
  intro ds μ Q E h
  unfold sp_race_after at h
  repeat (first | (obtain ⟨rfl, _⟩ := h; rfl; done) | (obtain ⟨_, h⟩ := h))
theorem ok_race_after (B : Fk w K mg base) {f : Addr} {fd : FuncData} (F : FunD K d_race_after.name d_race_after.qual d_race_after.params d_race_after.body d_race_after.scope (d_race_after.dvs K) (d_race_after.kws K) f fd) : FnOk PG w K mg base (L2.CX PG w) 3 f fd P_race_after (liftSp K (xct K cs) sp_race_after) :=
  fnOk F sc_race_after (B.b.gam (k := 2) (fs := []) (by decide) AllF.nil) tr_race_after ln_race_after pf_race_after
theorem at_race_after (B : Fk w K mg base) : FnAt PG w K mg base (xct K cs) 3 "_law_race_after" 4 [] sp_race_after := by
  obtain ⟨fd, F⟩ := B.c.def_ 23 (d := d_race_after) rfl
  exact FnAt.of (B.glo "_law_race_after" (by simp [fa])) F.kp (FunD.bindsN (ps := P_race_after) F fun _ _ _ _ _ _ us hl => match us, hl with | [_, _, _, _], _ => rfl) (ok_race_after B F)
abbrev s_race_best : Stmt := top 45
theorem tr_race_best : trSN (GG [⟨"_law_race_value", 4, [], false, sp_race_value⟩]) N_race_best (defScope s_race_best) [] false 30 60 none (defBody s_race_best) = some w_race_best := by kernel_rfl
theorem sc_race_best : FnScope N_race_best P_race_best (defScope s_race_best) := ⟨rfl, rfl, rfl, by decide +kernel, rfl, by decide +kernel, by decide +kernel⟩
theorem ln_race_best : ∀ ds μ Q E, sp_race_best ds μ Q E → ds.length = P_race_best.length := by
  intro ds μ Q E h
  unfold sp_race_best at h
  repeat (first | (obtain ⟨rfl, _⟩ := h; rfl; done) | (obtain ⟨_, h⟩ := h))
theorem ok_race_best (B : Fk w K mg base) {f : Addr} {fd : FuncData} (F : FunD K d_race_best.name d_race_best.qual d_race_best.params d_race_best.body d_race_best.scope (d_race_best.dvs K) (d_race_best.kws K) f fd) : FnOk PG w K mg base (L2.CX PG w) 4 f fd P_race_best (liftSp K (xct K cs) sp_race_best) :=
  fnOk F sc_race_best (B.b.gam (k := 3) (fs := [⟨"_law_race_value", 4, [], false, sp_race_value⟩]) (by decide) (AllF.cons ((at_race_value B).mono (by decide)) AllF.nil)) tr_race_best ln_race_best pf_race_best
theorem at_race_best (B : Fk w K mg base) : FnAt PG w K mg base (xct K cs) 4 "_law_race_best" 4 [] sp_race_best := by
  obtain ⟨fd, F⟩ := B.c.def_ 24 (d := d_race_best) rfl
  exact FnAt.of (B.glo "_law_race_best" (by simp [fa])) F.kp (FunD.bindsN (ps := P_race_best) F fun _ _ _ _ _ _ us hl => match us, hl with | [_, _, _, _], _ => rfl) (ok_race_best B F)
abbrev s_line_asked : Stmt := top 46
theorem tr_line_asked : trSN (GG [⟨"race_line", 3, [], false, sp_m_race_line⟩]) N_line_asked (defScope s_line_asked) [] false 30 60 none (defBody s_line_asked) = some w_line_asked := by kernel_rfl
theorem sc_line_asked : FnScope N_line_asked P_line_asked (defScope s_line_asked) := ⟨rfl, rfl, rfl, by decide +kernel, rfl, by decide +kernel, by decide +kernel⟩
theorem ln_line_asked : ∀ ds μ Q E, sp_line_asked ds μ Q E → ds.length = P_line_asked.length := by
  intro ds μ Q E h
  unfold sp_line_asked at h
  repeat (first | (obtain ⟨rfl, _⟩ := h; rfl; done) | (obtain ⟨_, h⟩ := h))
theorem ok_line_asked (B : Fk w K mg base) {f : Addr} {fd : FuncData} (F : FunD K d_line_asked.name d_line_asked.qual d_line_asked.params d_line_asked.body d_line_asked.scope (d_line_asked.dvs K) (d_line_asked.kws K) f fd) : FnOk PG w K mg base (L2.CX PG w) 8 f fd P_line_asked (liftSp K (xct K cs) sp_line_asked) :=
  fnOk F sc_line_asked (B.b.gam (k := 7) (fs := [⟨"race_line", 3, [], false, sp_m_race_line⟩]) (by decide) (AllF.cons ((at_m_race_line B).mono (by decide)) AllF.nil)) tr_line_asked ln_line_asked pf_line_asked
theorem at_line_asked (B : Fk w K mg base) : FnAt PG w K mg base (xct K cs) 8 "_law_line_asked" 1 [] sp_line_asked := by
  obtain ⟨fd, F⟩ := B.c.def_ 25 (d := d_line_asked) rfl
  exact FnAt.of (B.glo "_law_line_asked" (by simp [fa])) F.kp (FunD.bindsN (ps := P_line_asked) F fun _ _ _ _ _ _ us hl => match us, hl with | [_], _ => rfl) (ok_line_asked B F)
abbrev s_walk_of : Stmt := top 47
theorem tr_walk_of : trSN (GG [⟨"_law_race_after", 4, [], false, sp_race_after⟩, ⟨"_law_race_best", 4, [], false, sp_race_best⟩]) N_walk_of (defScope s_walk_of) ["_law_steps"] false 30 60 none (defBody s_walk_of) = some w_walk_of := by kernel_rfl
theorem sc_walk_of : FnScope N_walk_of P_walk_of (defScope s_walk_of) := ⟨rfl, rfl, rfl, by decide +kernel, rfl, by decide +kernel, by decide +kernel⟩
theorem ln_walk_of : ∀ ds μ Q E, sp_walk_of ds μ Q E → ds.length = P_walk_of.length := by
  intro ds μ Q E h
  unfold sp_walk_of at h
  repeat (first | (obtain ⟨rfl, _⟩ := h; rfl; done) | (obtain ⟨_, h⟩ := h))
theorem ok_walk_of (B : Fk w K mg base) {f : Addr} {fd : FuncData} (F : FunD K d_walk_of.name d_walk_of.qual d_walk_of.params d_walk_of.body d_walk_of.scope (d_walk_of.dvs K) (d_walk_of.kws K) f fd) : FnOk PG w K mg base (L2.CX PG w) 5 f fd P_walk_of (liftSp K (xct K cs) sp_walk_of) :=
  fnOk F sc_walk_of (B.b.gam (k := 4) (fs := [⟨"_law_race_after", 4, [], false, sp_race_after⟩, ⟨"_law_race_best", 4, [], false, sp_race_best⟩]) (by decide) (AllF.cons ((at_race_after B).mono (by decide)) (AllF.cons ((at_race_best B).mono (by decide)) AllF.nil))) tr_walk_of ln_walk_of pf_walk_of
theorem at_walk_of (B : Fk w K mg base) : FnAt PG w K mg base (xct K cs) 5 "_law_walk_of" 2 [] sp_walk_of := by
  obtain ⟨fd, F⟩ := B.c.def_ 26 (d := d_walk_of) rfl
  exact FnAt.of (B.glo "_law_walk_of" (by simp [fa])) F.kp (FunD.bindsN (ps := P_walk_of) F fun _ _ _ _ _ _ us hl => match us, hl with | [_, _], _ => rfl) (ok_walk_of B F)
abbrev s_walk_agrees : Stmt := top 48
theorem tr_walk_agrees : trSN (GG [⟨"_law_same", 2, [], false, (sp_sameN 3)⟩, ⟨"race_value", 3, ["after_pass"], false, sp_m_race_value⟩, ⟨"race_best", 3, ["after_pass"], false, sp_m_race_best⟩]) N_walk_agrees (defScope s_walk_agrees) [] false 30 60 none (defBody s_walk_agrees) = some w_walk_agrees := by kernel_rfl
theorem sc_walk_agrees : FnScope N_walk_agrees P_walk_agrees (defScope s_walk_agrees) := ⟨rfl, rfl, rfl, by decide +kernel, rfl, by decide +kernel, by decide +kernel⟩
theorem ln_walk_agrees : ∀ ds μ Q E, sp_walk_agrees ds μ Q E → ds.length = P_walk_agrees.length := by
  intro ds μ Q E h
  unfold sp_walk_agrees at h
  repeat (first | (obtain ⟨rfl, _⟩ := h; rfl; done) | (obtain ⟨_, h⟩ := h))
theorem ok_walk_agrees (B : Fk w K mg base) {f : Addr} {fd : FuncData} (F : FunD K d_walk_agrees.name d_walk_agrees.qual d_walk_agrees.params d_walk_agrees.body d_walk_agrees.scope (d_walk_agrees.dvs K) (d_walk_agrees.kws K) f fd) : FnOk PG w K mg base (L2.CX PG w) 10 f fd P_walk_agrees (liftSp K (xct K cs) sp_walk_agrees) :=
  fnOk F sc_walk_agrees (B.b.gam (k := 9) (fs := [⟨"_law_same", 2, [], false, (sp_sameN 3)⟩, ⟨"race_value", 3, ["after_pass"], false, sp_m_race_value⟩, ⟨"race_best", 3, ["after_pass"], false, sp_m_race_best⟩]) (by decide) (AllF.cons ((at_same_a3 B).mono (by decide)) (AllF.cons ((at_m_race_value B).mono (by decide)) (AllF.cons ((at_m_race_best B).mono (by decide)) AllF.nil)))) tr_walk_agrees ln_walk_agrees pf_walk_agrees
theorem at_walk_agrees (B : Fk w K mg base) : FnAt PG w K mg base (xct K cs) 10 "_law_walk_agrees" 1 [] sp_walk_agrees := by
  obtain ⟨fd, F⟩ := B.c.def_ 27 (d := d_walk_agrees) rfl
  exact FnAt.of (B.glo "_law_walk_agrees" (by simp [fa])) F.kp (FunD.bindsN (ps := P_walk_agrees) F fun _ _ _ _ _ _ us hl => match us, hl with | [_], _ => rfl) (ok_walk_agrees B F)
abbrev s_race : Stmt := top 39
theorem tr_race : trSN (GG [⟨"_law_chance", 2, [], false, sp_chance⟩, ⟨"_law_pick", 2, [], false, sp_pick⟩, ⟨"_law_take", 2, [], false, sp_take⟩, ⟨"_law_number", 3, [], false, sp_number⟩]) N_race (defScope s_race) [] false 30 60 none (defBody s_race) = some w_race := by kernel_rfl
theorem sc_race : FnScope N_race P_race (defScope s_race) := ⟨rfl, rfl, rfl, by decide +kernel, rfl, by decide +kernel, by decide +kernel⟩
theorem ln_race : ∀ ds μ Q E, sp_race ds μ Q E → ds.length = P_race.length := by
  intro ds μ Q E h
  unfold sp_race at h
  repeat (first | (obtain ⟨rfl, _⟩ := h; rfl; done) | (obtain ⟨_, h⟩ := h))
theorem ok_race (B : Fk w K mg base) {f : Addr} {fd : FuncData} (F : FunD K d_race.name d_race.qual d_race.params d_race.body d_race.scope (d_race.dvs K) (d_race.kws K) f fd) : FnOk PG w K mg base (L2.CX PG w) 7 f fd P_race (liftSp K (xct K cs) sp_race) :=
  fnOk F sc_race (B.b.gam (k := 6) (fs := [⟨"_law_chance", 2, [], false, sp_chance⟩, ⟨"_law_pick", 2, [], false, sp_pick⟩, ⟨"_law_take", 2, [], false, sp_take⟩, ⟨"_law_number", 3, [], false, sp_number⟩]) (by decide) (AllF.cons ((at_chance B).mono (by decide)) (AllF.cons ((at_pick B).mono (by decide)) (AllF.cons ((at_take B).mono (by decide)) (AllF.cons ((at_number B).mono (by decide)) AllF.nil))))) tr_race ln_race pf_race
theorem at_race (B : Fk w K mg base) : FnAt PG w K mg base (xct K cs) 7 "_law_race" 2 [] sp_race := by
  obtain ⟨fd, F⟩ := B.c.def_ 28 (d := d_race) rfl
  exact FnAt.of (B.glo "_law_race" (by simp [fa])) F.kp (FunD.bindsN (ps := P_race) F fun _ _ _ _ _ _ us hl => match us, hl with | [_, _], _ => rfl) (ok_race B F)
abbrev s_bad_race : Stmt := top 40
theorem tr_bad_race : trSN (GG [⟨"_law_take", 2, [], false, sp_take⟩, ⟨"_law_bad_number", 3, [], false, sp_bad_number⟩, ⟨"_law_chance", 2, [], false, sp_chance⟩, ⟨"_law_race", 2, [], false, sp_race⟩]) N_bad_race (defScope s_bad_race) ["_law_numbers"] false 30 60 none (defBody s_bad_race) = some w_bad_race := by kernel_rfl
theorem sc_bad_race : FnScope N_bad_race P_bad_race (defScope s_bad_race) := ⟨rfl, rfl, rfl, by decide +kernel, rfl, by decide +kernel, by decide +kernel⟩
theorem ln_bad_race : ∀ ds μ Q E, sp_bad_race ds μ Q E → ds.length = P_bad_race.length := by
  intro ds μ Q E h
  unfold sp_bad_race at h
  repeat (first | (obtain ⟨rfl, _⟩ := h; rfl; done) | (obtain ⟨_, h⟩ := h))
theorem ok_bad_race (B : Fk w K mg base) {f : Addr} {fd : FuncData} (F : FunD K d_bad_race.name d_bad_race.qual d_bad_race.params d_bad_race.body d_bad_race.scope (d_bad_race.dvs K) (d_bad_race.kws K) f fd) : FnOk PG w K mg base (L2.CX PG w) 8 f fd P_bad_race (liftSp K (xct K cs) sp_bad_race) :=
  fnOk F sc_bad_race (B.b.gam (k := 7) (fs := [⟨"_law_take", 2, [], false, sp_take⟩, ⟨"_law_bad_number", 3, [], false, sp_bad_number⟩, ⟨"_law_chance", 2, [], false, sp_chance⟩, ⟨"_law_race", 2, [], false, sp_race⟩]) (by decide) (AllF.cons ((at_take B).mono (by decide)) (AllF.cons ((at_bad_number B).mono (by decide)) (AllF.cons ((at_chance B).mono (by decide)) (AllF.cons ((at_race B).mono (by decide)) AllF.nil))))) tr_bad_race ln_bad_race pf_bad_race
theorem at_bad_race (B : Fk w K mg base) : FnAt PG w K mg base (xct K cs) 8 "_law_bad_race" 2 [] sp_bad_race := by
  obtain ⟨fd, F⟩ := B.c.def_ 29 (d := d_bad_race) rfl
  exact FnAt.of (B.glo "_law_bad_race" (by simp [fa])) F.kp (FunD.bindsN (ps := P_bad_race) F fun _ _ _ _ _ _ us hl => match us, hl with | [_, _], _ => rfl) (ok_bad_race B F)
abbrev s_law : Stmt := top 49
theorem tr_law : trSN (GG [⟨"_law_same", 2, [], false, (sp_sameN 3)⟩, ⟨"_law_line_asked", 1, [], false, sp_line_asked⟩, ⟨"_law_race_due", 4, [], false, sp_race_due⟩, ⟨"race_line", 3, [], false, sp_m_race_line⟩, ⟨"_law_walk_agrees", 1, [], false, sp_walk_agrees⟩, ⟨"_law_walk_of", 2, [], false, sp_walk_of⟩, ⟨"_law_bad_race", 2, [], false, sp_bad_race⟩, ⟨"_law_race", 2, [], false, sp_race⟩, ⟨"_law_pick", 2, [], false, sp_pick⟩, ⟨"_law_store", 1, [], true, sp_store⟩]) N_law (defScope s_law) ["_law_races", "_law_dues"] false 30 60 none (defBody s_law) = some w_law := by kernel_rfl
theorem sc_law : FnScope N_law P_law (defScope s_law) := ⟨rfl, rfl, rfl, by decide +kernel, rfl, by decide +kernel, by decide +kernel⟩
theorem ln_law : ∀ ds μ Q E, sp_law ds μ Q E → ds.length = P_law.length := by
  intro ds μ Q E h
  unfold sp_law at h
  repeat (first | (obtain ⟨rfl, _⟩ := h; rfl; done) | (obtain ⟨_, h⟩ := h))
theorem ok_law (B : Fk w K mg base) {f : Addr} {fd : FuncData} (F : FunD K d_law.name d_law.qual d_law.params d_law.body d_law.scope (d_law.dvs K) (d_law.kws K) f fd) : FnOk PG w K mg base (L2.CX PG w) 11 f fd P_law (liftSp K (xct K cs) sp_law) :=
  fnOk F sc_law (B.b.gam (k := 10) (fs := [⟨"_law_same", 2, [], false, (sp_sameN 3)⟩, ⟨"_law_line_asked", 1, [], false, sp_line_asked⟩, ⟨"_law_race_due", 4, [], false, sp_race_due⟩, ⟨"race_line", 3, [], false, sp_m_race_line⟩, ⟨"_law_walk_agrees", 1, [], false, sp_walk_agrees⟩, ⟨"_law_walk_of", 2, [], false, sp_walk_of⟩, ⟨"_law_bad_race", 2, [], false, sp_bad_race⟩, ⟨"_law_race", 2, [], false, sp_race⟩, ⟨"_law_pick", 2, [], false, sp_pick⟩, ⟨"_law_store", 1, [], true, sp_store⟩]) (by decide) (AllF.cons ((at_same_a3 B).mono (by decide)) (AllF.cons ((at_line_asked B).mono (by decide)) (AllF.cons ((at_race_due B).mono (by decide)) (AllF.cons ((at_m_race_line B).mono (by decide)) (AllF.cons ((at_walk_agrees B).mono (by decide)) (AllF.cons ((at_walk_of B).mono (by decide)) (AllF.cons ((at_bad_race B).mono (by decide)) (AllF.cons ((at_race B).mono (by decide)) (AllF.cons ((at_pick B).mono (by decide)) (AllF.cons ((at_store B).mono (by decide)) AllF.nil))))))))))) tr_law ln_law pf_law
theorem at_law (B : Fk w K mg base) : FnAt PG w K mg base (xct K cs) 11 "law" 1 [] sp_law := by
  obtain ⟨fd, F⟩ := B.c.def_ 30 (d := d_law) rfl
  exact FnAt.of (B.glo "law" (by simp [fa])) F.kp (FunD.bindsN (ps := P_law) F fun _ _ _ _ _ _ us hl => match us, hl with | [_], _ => rfl) (ok_law B F)
end
/-! the k of the law: 11 -/
theorem bs {w : World} {K : PySem.W.Frag} {mg : Str → Option Value} {base h : Heap} (X : K.In h) (G : h.Ns mainGlobals mg) (c : He.SaysD fa fn K) (m : ex K = true) : Fk w K mg base := by
  have gl : ∀ x, He.Fa.glo x ∈ fa → mg x = some (.ref (He.ga K x)) := fun x hx => He.glo_ok X G (c.facts hx)
  unfold ex at m
  simp only [Bool.and_eq_true, decide_eq_true_eq] at m
  obtain ⟨mc_BadNumber, ms_BadNumber, ms_ValueError, ms_TworoomsError, ms_BadName, ms_TooMany, ms_NoEntry, ⟨mi_BadNumber, mj_BadNumber⟩, _⟩ := m
  refine ⟨c, gl, ⟨?_, ?_, ?_, ?_, ?_⟩⟩
  · intro q hq
    simp only [consts, List.mem_cons, List.not_mem_nil, or_false] at hq
    rcases hq with rfl | rfl | rfl | rfl | rfl | rfl | rfl | rfl | rfl
    · exact con_str (He.str_ok X G (c.facts (by simp [fa])))
    · exact con_str (He.str_ok X G (c.facts (by simp [fa])))
    · exact con_str (He.str_ok X G (c.facts (by simp [fa])))
    · exact con_str (He.str_ok X G (c.facts (by simp [fa])))
    · exact con_str (He.str_ok X G (c.facts (by simp [fa])))
    · exact con_str (He.str_ok X G (c.facts (by simp [fa])))
    · exact con_int (He.int_ok X G (c.facts (by simp [fa])))
    · exact con_str (He.str_ok X G (c.facts (by simp [fa])))
    · exact con_int (He.int_ok X G (c.facts (by simp [fa])))
  · intro x hx
    refine He.free_ok X G (c.facts ?_)
    simp only [biNames, List.mem_cons, List.not_mem_nil, or_false] at hx
    rcases hx with rfl | rfl | rfl | rfl | rfl | rfl | rfl | rfl | rfl | rfl | rfl | rfl | rfl | rfl | rfl | rfl | rfl | rfl | rfl | rfl | rfl | rfl | rfl | rfl <;> simp [fa]
  · intro q hq
    simp only [raises, List.mem_cons, List.not_mem_nil, or_false] at hq
    rcases hq with rfl
    · obtain ⟨fd, F⟩ := c.def_ 32 (d := d_init_BadNumber) rfl
      have hx : XCls K mg "BadNumber" (He.ga K "BadNumber") fl_BadNumber := xclB_ok (gl _ (by simp [fa])) mc_BadNumber
      exact xmk2 (qual := d_init_BadNumber.qual) (params := d_init_BadNumber.params) (body := d_init_BadNumber.body) (scope := d_init_BadNumber.scope) (show (if memB "BadNumber" cs = true then some (He.ga K "BadNumber") else none) = _ from if_pos (by decide +kernel)) ⟨hx.g, hx.o, hx.f, hx.e, fun f hf => hx.no f (by simp only [List.mem_cons, List.not_mem_nil, or_false] at hf; rcases hf with rfl | rfl <;> simp [fl_BadNumber])⟩ mi_BadNumber mj_BadNumber F ⟨rfl, rfl, rfl, by decide +kernel, rfl, by decide +kernel, by decide +kernel⟩ ⟨_, _, _, _, _, _, _, _, rfl⟩ (FunD.bindsN (ps := ["self", "what", "value"]) F fun _ _ _ _ _ _ us hl => match us, hl with | [_, _, _], _ => rfl) rfl rfl rfl rfl
  · intro q hq
    simp only [subs, List.mem_cons, List.not_mem_nil, or_false] at hq
    rcases hq with rfl | rfl | rfl | rfl | rfl | rfl
    · exact subB_ok (gl _ (by simp [fa])) ms_BadNumber
    · exact subV_ok (He.free_ok X G (c.facts (by simp [fa]))) rfl ms_ValueError
    · exact subB_ok (gl _ (by simp [fa])) ms_TworoomsError
    · exact subB_ok (gl _ (by simp [fa])) ms_BadName
    · exact subB_ok (gl _ (by simp [fa])) ms_TooMany
    · exact subB_ok (gl _ (by simp [fa])) ms_NoEntry
  · intro c' ca hc
    obtain ⟨h1, rfl⟩ := xct_ok hc
    simp only [cs, List.mem_cons, List.not_mem_nil, or_false] at h1
    rcases h1 with rfl
    · have hx : XCls K mg "BadNumber" (He.ga K "BadNumber") fl_BadNumber := xclB_ok (gl _ (by simp [fa])) mc_BadNumber
      exact ⟨hx.f, hx.e, fun f hf => hx.no f (by simp only [flds, List.mem_cons, List.not_mem_nil, or_false] at hf; rcases hf with rfl | rfl <;> simp [fl_BadNumber])⟩
theorem no_cx {w : World} {H : Hp} {s : Shared} {e : Value} {s' : Shared} (z : L2.CX PG w [] H s (fun _ _ _ => False) e s') : False := by
  obtain ⟨a, B, H', cls, d, _, _, _, _, _, _, _, h⟩ := z
  exact h
theorem at_head {w : World} {K : PySem.W.Frag} {mg : Str → Option Value} {fa' : Addr} {h : Heap} (X : K.In h) (G : h.Ns mainGlobals mg) (c : He.SaysX fa fn [] [] ex w h K) (hmg : mg ("law" : Str) = some (.ref fa')) : LamX.LawAtS PySem.Challenge.rw_tworooms_k77_line_ends_with_the_value w K (L2.CX PG w) 11 63 "_law_script" mg fa' h := by
  obtain ⟨fd, F⟩ := c.t.d.def_ 30 (d := d_law) rfl
  have B : ∀ base, Fk w K mg base := fun base => bs X G c.t.d c.more
  have e : fa' = He.fAd K d_law.at_ := by
    have := hmg.symm.trans ((B h).glo "law" (by simp [fa]))
    cases this
    rfl
  subst e
  have b := FunD.bindsA (ps := ["_law_script"]) F fun _ _ _ _ _ _ us hl => match us, hl with | [_], _ => rfl
  exact ⟨fd, [], liftSp K (xct K cs) sp_law, fun _ hp => (by cases hp), fun _ hp => (by cases hp), fun _ hp => (by cases hp), fun s u => b s [u] rfl,
    fun H a ns hl hb _ hS => law_sp (fun ns h1 h2 μ Q E q => ⟨ns, rfl, h1, h2, q⟩) (by decide) H a ns hl hb hS, fun base _ _ _ => ok_law (B base) F⟩
def loose0 : List Str := ["__name__", "TworoomsError", "BadNumber", "BadName", "TooMany", "NoEntry", "is_number", "check_number", "FILL", "SHARE", "OWN", "STAY", "WINS", "LOSES", "PEACE", "MOST_RACE", "MOST_LINE", "check_three", "check_sums", "check_race", "value_by_rule", "best_by_rule", "race_step", "race_value", "race_best", "race_line", "_law_store", "_law_mixed", "_law_take", "_law_pick"]
def loose1 : List Str := ["_law_chance", "_law_number", "_law_bad_number", "_law_same", "_law_same_rows", "_law_same_dicts", "_law_race", "_law_bad_race", "_law_is_number", "_law_race_due", "_law_race_value", "_law_race_after", "_law_race_best", "_law_line_asked", "_law_walk_of", "_law_walk_agrees"]
def loose : List Str := loose0 ++ loose1
abbrev R : PySem.W.OpenRow := PySem.W.OpenLaw.row PySem.Challenge.rw_tworooms_k77_line_ends_with_the_value
def hk : PySem.W.Hook := He.hookX 4 fa fn [] [] ex
def ob (s : PySem.W.SharedT) : He.AlX := He.obsX 4 fa fn [] [] ex (HandSHeadRun.getT s)
theorem ob_eq (s : PySem.W.SharedT) : ob s = hk.obs s.abs := He.obsX_eq (HandSHeadRun.getT_eq s)
theorem run (w : World) : HandSHeadRun.RunEq R (PySem.W.view R.prog [49]) hk ob 4000 loose w := by
  intro os
  kernel_rfl
end K77
open PySem PySem.W PySem.Calls PyProof.Rows
theorem PySem.Challenge.cw_tworooms_k77_line_ends_with_the_value_holds : PySem.Challenge.rw_tworooms_k77_line_ends_with_the_value.Holds := by
  w_on; o_law
  refine HandSHeadRun.head_any (r := OpenLaw.row PySem.Challenge.rw_tworooms_k77_line_ends_with_the_value) (q := view (OpenLaw.row PySem.Challenge.rw_tworooms_k77_line_ends_with_the_value).prog [49]) (H := K77.hk) (ob := K77.ob) (M := 4000) (loose := K77.loose) (d := HandSHeadRun.topDef (OpenLaw.row PySem.Challenge.rw_tworooms_k77_line_ends_with_the_value).prog 49) (kwd := []) K77.ob_eq
    (by kernel_rfl) (fun s => by kernel_rfl) K77.run (by kernel_rfl) (by kernel_rfl) (by kernel_rfl) (by rfl) (by first | assumption | decide +kernel) (by decide +kernel) ⟨rfl, rfl, rfl, rfl, rfl, by decide +kernel⟩ ?hw ?hc
  case hw => w_witness2
  case hc =>
    refine LamX.walk_ofTsE (l := PySem.Challenge.rw_tworooms_k77_line_ends_with_the_value) (n := 63) (k := 11) (x := "_law_script") (CX := fun w => L2.CX K77.PG w) rfl (by decide) (by kernel_rfl) ⟨rfl, by decide, by decide⟩ ?F (fun _ _ _ _ _ z => K77.no_cx z)
    intro w mg fa h Y G hmg0
    obtain ⟨K, KX, c⟩ := Y
    have hmg : mg ("law" : PySem.Str) = some (.ref fa) := by
      have e : (HandSHeadRun.topDef (OpenLaw.row PySem.Challenge.rw_tworooms_k77_line_ends_with_the_value).prog 49).name = ("law" : PySem.Str) := by kernel_rfl
      rw [← e]
      exact hmg0
    exact ⟨K, KX, K77.at_head KX G c hmg⟩

