import PyProof.Rows.All
import Wide.All
import OpenK.AllK
import Wide.FinOn
import HandS.ForMost
import HandS.Exc
import HandS.TryOnly
import HandS.ExcOwn
import HandS.WordsExc
import HandS.NoneIn
import HandS.TupAny
import HandS.IsInst
import HandS.StrMore
import PyProof.Rows.SortShellAny
import HandS.Set
import HandS.SetFor
import HandS.SetTxt0
import HandS.Defaults
import HandS.Head0
import HandS.Head1
import HandS.Head2
import HandS.HeadEnd
import HandS.HeadHook1
import HandS.HeadHook2
import PyProof.SumAny
import PyProof.Walks
import PyProof.Rows.SeqMore
import PyProof.SeqRoads
import Lean
import PySem.Challenge.RW_layeredwords_k13_whole_unlike_meanings_a
set_option Elab.async false
set_option linter.all false
set_option maxRecDepth 100000
set_option maxHeartbeats 2000000
namespace DL
open PySem L2
/-! ### data in the heap -/
mutual
def Rep (K : PySem.W.Frag) (H : Hp) (v : V) : PyData → Prop
  | .none => v = .non
  | .bool b => v = .bl b
  | .int i => v = .int i
  | .str x => v = .str x
  | .list l => ∃ a vs, v = .ref a ∧ SqL K H a vs ∧ Reps K H vs l
  | .tuple l => ∃ a vs, v = .ref a ∧ SqT K H a vs ∧ Reps K H vs l
  | .dict kvs => ∃ a ks, v = .ref a ∧ H a = some (.dK ks) ∧ RepK K H ks kvs
def Reps (K : PySem.W.Frag) (H : Hp) (vs : List V) : List PyData → Prop
  | [] => vs = []
  | d :: ds => ∃ v r, vs = v :: r ∧ Rep K H v d ∧ Reps K H r ds
def RepK (K : PySem.W.Frag) (H : Hp) (ks : List (Key × V)) : List (PyData × PyData) → Prop
  | [] => ks = []
  | kd :: ds => ∃ k v r, ks = (k, v) :: r ∧ RepP K H k v kd ∧ RepK K H r ds
def RepP (K : PySem.W.Frag) (H : Hp) (k : Key) (v : V) : PyData × PyData → Prop
  | (a, b) => Rep K H (kV k) a ∧ Rep K H v b
end
section
variable {K : PySem.W.Frag} {H H' : Hp}
theorem rd_mono (e : Same H H') {a : Addr} {u : HO} (h : Rd H a u) : Rd H' a u := by
  rcases h with h | ⟨o, h⟩
  · exact .inl (e a _ h)
  · exact .inr ⟨o, e a _ h⟩
theorem sql_mono (e : Same H H') {a : Addr} {vs : List V} (h : SqL K H a vs) : SqL K H' a vs := by
  rcases h with h | h
  · exact .inl (rd_mono e h)
  · exact .inr h
theorem sqt_mono (e : Same H H') {a : Addr} {vs : List V} (h : SqT K H a vs) : SqT K H' a vs := by
  rcases h with h | h
  · exact .inl (rd_mono e h)
  · exact .inr h
mutual
theorem Rep.mono (e : Same H H') : ∀ (d : PyData) (v : V), Rep K H v d → Rep K H' v d
  | .none, _, h => h
  | .bool _, _, h => h
  | .int _, _, h => h
  | .str _, _, h => h
  | .list l, _, ⟨a, vs, e1, h1, h2⟩ => ⟨a, vs, e1, sql_mono e h1, Reps.mono e l vs h2⟩
  | .tuple l, _, ⟨a, vs, e1, h1, h2⟩ => ⟨a, vs, e1, sqt_mono e h1, Reps.mono e l vs h2⟩
  | .dict kvs, _, ⟨a, ks, e1, h1, h2⟩ => ⟨a, ks, e1, e a _ h1, RepK.mono e kvs ks h2⟩
theorem Reps.mono (e : Same H H') : ∀ (l : List PyData) (vs : List V), Reps K H vs l → Reps K H' vs l
  | [], _, h => h
  | d :: ds, _, ⟨v, r, e1, h1, h2⟩ => ⟨v, r, e1, Rep.mono e d v h1, Reps.mono e ds r h2⟩
theorem RepK.mono (e : Same H H') : ∀ (l : List (PyData × PyData)) (ks : List (Key × V)), RepK K H ks l → RepK K H' ks l
  | [], _, h => h
  | kd :: ds, _, ⟨k, v, r, e1, h1, h2⟩ => ⟨k, v, r, e1, RepP.mono e kd k v h1, RepK.mono e ds r h2⟩
theorem RepP.mono (e : Same H H') : ∀ (kd : PyData × PyData) (k : Key) (v : V), RepP K H k v kd → RepP K H' k v kd
  | (a, b), _, _, ⟨h1, h2⟩ => ⟨Rep.mono e a _ h1, Rep.mono e b _ h2⟩
end
theorem Reps.len : ∀ {l : List PyData} {vs : List V}, Reps K H vs l → vs.length = l.length
  | [], _, h => by rw [show _ = [] from h]; rfl
  | d :: ds, _, ⟨v, r, e1, _, h2⟩ => by rw [e1, List.length_cons, List.length_cons, Reps.len h2]
theorem Reps.get : ∀ {l : List PyData} {vs : List V} {i : Nat} {d : PyData}, Reps K H vs l → l[i]? = some d → ∃ v, vs[i]? = some v ∧ Rep K H v d
  | [], _, _, _, _, e => by simp at e
  | d :: ds, _, 0, _, ⟨v, r, e1, h1, h2⟩, e => by
    simp at e; subst e
    exact ⟨v, by rw [e1]; rfl, h1⟩
  | d :: ds, _, i + 1, _, ⟨v, r, e1, h1, h2⟩, e => by
    obtain ⟨w, q1, q2⟩ := Reps.get (i := i) h2 (by simpa using e)
    exact ⟨w, by rw [e1]; simpa using q1, q2⟩
theorem Reps.getV : ∀ {l : List PyData} {vs : List V} {i : Nat} {v : V}, Reps K H vs l → vs[i]? = some v → ∃ d, l[i]? = some d ∧ Rep K H v d
  | [], vs, i, v, h, e => by rw [show vs = [] from h] at e; simp at e
  | d :: ds, _, 0, v, ⟨w, r, e1, h1, h2⟩, e => by
    subst e1; simp at e; subst e
    exact ⟨d, rfl, h1⟩
  | d :: ds, _, i + 1, v, ⟨w, r, e1, h1, h2⟩, e => by
    subst e1
    obtain ⟨x, q1, q2⟩ := Reps.getV (i := i) h2 (by simpa using e)
    exact ⟨x, by simpa using q1, q2⟩
theorem Reps.append : ∀ {l m : List PyData} {vs ws : List V}, Reps K H vs l → Reps K H ws m → Reps K H (vs ++ ws) (l ++ m)
  | [], _, _, _, h, h' => by rw [show _ = [] from h]; exact h'
  | d :: ds, _, _, _, ⟨v, r, e1, h1, h2⟩, h' => ⟨v, r ++ _, by rw [e1]; rfl, h1, Reps.append h2 h'⟩
theorem Reps.one {v : V} {d : PyData} (h : Rep K H v d) : Reps K H [v] [d] := ⟨v, [], rfl, h, rfl⟩
theorem Reps.take : ∀ {l : List PyData} {vs : List V} (n : Nat), Reps K H vs l → Reps K H (vs.take n) (l.take n)
  | _, _, 0, _ => by simp [Reps]
  | [], _, n + 1, h => by rw [show _ = [] from h]; exact rfl
  | d :: ds, _, n + 1, ⟨v, r, e1, h1, h2⟩ => ⟨v, r.take n, by rw [e1]; rfl, h1, Reps.take n h2⟩
theorem Reps.drop : ∀ {l : List PyData} {vs : List V} (n : Nat), Reps K H vs l → Reps K H (vs.drop n) (l.drop n)
  | _, _, 0, h => h
  | [], _, n + 1, h => by rw [show _ = [] from h]; exact rfl
  | d :: ds, _, n + 1, ⟨v, r, e1, h1, h2⟩ => by rw [e1]; exact Reps.drop n h2
theorem Reps.set : ∀ {l : List PyData} {vs : List V} (i : Nat) {v : V} {d : PyData}, Rep K H v d → Reps K H vs l → Reps K H (vs.set i v) (l.set i d)
  | [], _, _, _, _, _, h => by rw [show _ = [] from h]; exact rfl
  | x :: ds, _, 0, v, d, hd, ⟨w, r, e1, h1, h2⟩ => ⟨v, r, by rw [e1]; rfl, hd, h2⟩
  | x :: ds, _, i + 1, v, d, hd, ⟨w, r, e1, h1, h2⟩ => ⟨w, r.set i v, by rw [e1]; rfl, h1, Reps.set i hd h2⟩
theorem Reps.dropLast {l : List PyData} {vs : List V} (h : Reps K H vs l) : Reps K H vs.dropLast l.dropLast := by
  rw [List.dropLast_eq_take, List.dropLast_eq_take, h.len]
  exact h.take _
end

/-! ### the abstract state -/
/-- a slot: nothing known; a value that stands still; a list of our own, written by nobody else; a caller's list that may be written here -/
inductive Sl where
  | no | v (d : PyData) | own (l : List PyData) | cell (l : List PyData)
abbrev G := List Sl
def Sl.mu : Sl → Option (List PyData)
  | .own l => some l
  | .cell l => some l
  | _ => none
def Sl.put (s : Sl) (l : List PyData) : Sl := match s with
  | .own _ => .own l
  | .cell _ => .cell l
  | s => s
structure Bs where
  H0 : Hp
  F0 : Hp
  pin : Nat → Option Addr
def keepB (B : Bs) (H : Hp) : Prop := ∀ a o, B.H0 a = some o → (∀ i, B.pin i ≠ some a) → H a = some o
structure EnvR (K : PySem.W.Frag) (B : Bs) (F H : Hp) (σ : St) (Γ : G) : Prop where
  ex : Same F H
  len : σ.length = Γ.length
  val : ∀ (i : Nat) (d : PyData), Γ[i]? = some (Sl.v d) → ∃ v : V, σ[i]? = some (some v) ∧ Rep K F v d
  mu : ∀ (i : Nat) (s : Sl) (l : List PyData), Γ[i]? = some s → s.mu = some l → ∃ (p : Addr) (vs : List V), σ[i]? = some (some (V.ref p)) ∧ F p = none ∧ H p = some (.lst vs) ∧ Reps K F vs l ∧ (s = Sl.own l → B.H0 p = none)
  pin : ∀ (i : Nat) (p : Addr), B.pin i = some p → ∃ l : List PyData, Γ[i]? = some (Sl.cell l) ∧ σ[i]? = some (some (V.ref p))
  cel : ∀ (i : Nat) (l : List PyData), Γ[i]? = some (Sl.cell l) → ∃ p, B.pin i = some p
  apart : ∀ (i j : Nat) (s t : Sl) (l m : List PyData) (p : Addr), Γ[i]? = some s → Γ[j]? = some t → s.mu = some l → t.mu = some m → σ[i]? = some (some (V.ref p)) → σ[j]? = some (some (V.ref p)) → i = j
  keep : keepB B H
  frz : ∀ (a : Addr) (o : HO), B.H0 a = some o → F a = B.F0 a
/-- what an expression gives: data; a new list of nobody else's; the list in a slot -/
inductive R where
  | d (x : PyData) | o (l : List PyData) | b (i : Nat)
def R.fz : R → R
  | .o l => .d (.list l)
  | r => r
def rd (Γ : G) : R → Option PyData
  | .d x => some x
  | .o l => some (.list l)
  | .b i => match Γ[i]? with
    | some s => s.mu.map .list
    | none => none
def RR (K : PySem.W.Frag) (B : Bs) (F H : Hp) (σ : St) (Γ : G) (v : V) : R → Prop
  | .d x => Rep K F v x
  | .o l => ∃ p vs, v = .ref p ∧ F p = none ∧ H p = some (.lst vs) ∧ Reps K F vs l ∧ B.H0 p = none ∧ ∀ (i : Nat) (s : Sl) (m : List PyData), Γ[i]? = some s → s.mu = some m → σ[i]? ≠ some (some (V.ref p))
  | .b i => σ[i]? = some (some v) ∧ ∃ (s : Sl) (l : List PyData), Γ[i]? = some s ∧ s.mu = some l
/-- a value as it reads now: a list's own object may be one that is still written -/
def Sh (K : PySem.W.Frag) (F H : Hp) (v : V) : PyData → Prop
  | .list l => ∃ a vs, v = .ref a ∧ SqL K H a vs ∧ Reps K F vs l
  | x => Rep K F v x
def Shs (K : PySem.W.Frag) (F H : Hp) (vs : List V) : List PyData → Prop
  | [] => vs = []
  | d :: ds => ∃ v r, vs = v :: r ∧ Sh K F H v d ∧ Shs K F H r ds
section
variable {K : PySem.W.Frag} {B : Bs} {F F' H H' : Hp} {σ : St} {Γ : G} {v : V}
theorem Sh.of (e : Same F H) : ∀ {d : PyData}, Rep K F v d → Sh K F H v d
  | .list l, ⟨a, vs, e1, h1, h2⟩ => ⟨a, vs, e1, sql_mono e h1, h2⟩
  | .none, h => h
  | .bool _, h => h
  | .int _, h => h
  | .str _, h => h
  | .tuple _, h => h
  | .dict _, h => h
theorem Sh.rep (e : Same F H) : ∀ {d : PyData}, Sh K F H v d → Rep K H v d
  | .list l, ⟨a, vs, e1, h1, h2⟩ => ⟨a, vs, e1, h1, Reps.mono e _ _ h2⟩
  | .none, h => Rep.mono e _ _ h
  | .bool _, h => Rep.mono e _ _ h
  | .int _, h => Rep.mono e _ _ h
  | .str _, h => Rep.mono e _ _ h
  | .tuple _, h => Rep.mono e _ _ h
  | .dict _, h => Rep.mono e _ _ h
theorem Sh.list {l : List PyData} (h : Sh K F H v (.list l)) : ∃ a vs, v = .ref a ∧ SqL K H a vs ∧ Reps K F vs l := h
theorem EnvR.sh (E : EnvR K B F H σ Γ) {r : R} {x : PyData} (h : RR K B F H σ Γ v r) (hr : rd Γ r = some x) : Sh K F H v x := by
  cases r with
  | d y => cases hr; exact Sh.of E.ex h
  | o l =>
    cases hr
    obtain ⟨p, vs, e, _, h1, h2, _⟩ := h
    exact ⟨p, vs, e, SqL.of h1, h2⟩
  | b i =>
    obtain ⟨h1, s, l, h2, h3⟩ := h
    have hr' : s.mu.map PyData.list = some x := by
      have q : (match Γ[i]? with
        | some s => s.mu.map PyData.list
        | none => none) = some x := hr
      rw [h2] at q
      exact q
    rw [h3] at hr'
    cases hr'
    obtain ⟨p, vs, q1, _, q3, q4, _⟩ := E.mu i s l h2 h3
    rw [h1] at q1
    cases q1
    exact ⟨p, vs, rfl, SqL.of q3, q4⟩
/-- the heap grows, more stands still, what is ours is not touched -/
theorem EnvR.grow (E : EnvR K B F H σ Γ) (e1 : Same H H') (e2 : Same F F') (e3 : Same F' H') (hn : ∀ (i : Nat) (s : Sl) (l : List PyData) (q : Addr), Γ[i]? = some s → s.mu = some l → σ[i]? = some (some (V.ref q)) → F' q = none) (hf : ∀ (a : Addr) (o : HO), B.H0 a = some o → F' a = F a) : EnvR K B F' H' σ Γ where
  ex := e3
  len := E.len
  val := fun i d h => by
    obtain ⟨v, h1, h2⟩ := E.val i d h
    exact ⟨v, h1, Rep.mono e2 _ _ h2⟩
  mu := fun i s l h h' => by
    obtain ⟨p, vs, h1, h2, h3, h4, h5⟩ := E.mu i s l h h'
    exact ⟨p, vs, h1, hn i s l p h h' h1, e1 p _ h3, Reps.mono e2 _ _ h4, h5⟩
  pin := E.pin
  cel := E.cel
  apart := E.apart
  keep := fun a o h hp => e1 a o (E.keep a o h hp)
  frz := fun a o h => (hf a o h).trans (E.frz a o h)
theorem EnvR.muH (E : EnvR K B F H σ Γ) {i : Nat} {s : Sl} {l : List PyData} {q : Addr} (h : Γ[i]? = some s) (h' : s.mu = some l) (hq : σ[i]? = some (some (V.ref q))) : F q = none ∧ ∃ vs, H q = some (.lst vs) ∧ Reps K F vs l := by
  obtain ⟨p, vs, h1, h2, h3, h4, h5⟩ := E.mu i s l h h'
  rw [h1] at hq
  cases hq
  exact ⟨h2, vs, h3, h4⟩
theorem none_back (e : Same F H) {p : Addr} (h : H p = none) : F p = none := by
  cases q : F p with
  | none => rfl
  | some o => rw [e p o q] at h; cases h
theorem same_upd {p : Addr} {o : HO} (h : H p = none) : Same H (upd H p o) := fun a u e => by
  rw [upd_ne (ne_of_none e h)]
  exact e
theorem same_upd2 {p : Addr} {o : HO} (e : Same F H) (h : H p = none) : Same (upd F p o) (upd H p o) := fun a u q => by
  by_cases ha : a = p
  · subst ha
    rw [upd_same] at q ⊢
    exact q
  · rw [upd_ne ha] at q ⊢
    exact e a u q
theorem EnvR.old (E : EnvR K B F H σ Γ) {p : Addr} (h : H p = none) : B.H0 p = none := by
  cases q : B.H0 p with
  | none => rfl
  | some o =>
    by_cases hp : ∃ i, B.pin i = some p
    · obtain ⟨i, hi⟩ := hp
      obtain ⟨l', h1, h2⟩ := E.pin i p hi
      obtain ⟨_, ws, h3, _⟩ := E.muH h1 rfl h2
      rw [h] at h3; cases h3
    · have := E.keep p o q fun i hi => hp ⟨i, hi⟩
      rw [h] at this; cases this
/-- a new object that stands still -/
theorem EnvR.lay (E : EnvR K B F H σ Γ) {p : Addr} {o : HO} (h : H p = none) : EnvR K B (upd F p o) (upd H p o) σ Γ :=
  E.grow (same_upd h) (same_upd (none_back E.ex h)) (same_upd2 E.ex h) (fun i s l q h1 h2 h3 => by
    obtain ⟨q1, vs, q2, _⟩ := E.muH h1 h2 h3
    rw [upd_ne (ne_of_none q2 h)]
    exact q1) fun a o q => upd_ne (ne_of_none q (E.old h))
/-- a new object that may be written yet -/
theorem EnvR.layH (E : EnvR K B F H σ Γ) {p : Addr} {o : HO} (h : H p = none) : EnvR K B F (upd H p o) σ Γ :=
  E.grow (same_upd h) (fun _ _ q => q) (fun a u q => (same_upd h) a u (E.ex a u q)) (fun i s l q h1 h2 h3 => (E.muH h1 h2 h3).1) fun _ _ _ => rfl
theorem Same.id (F : Hp) : Same F F := fun _ _ q => q
theorem EnvR.fz (E : EnvR K B F H σ Γ) {r : R} (h : RR K B F H σ Γ v r) : ∃ F', Same F F' ∧ EnvR K B F' H σ Γ ∧ RR K B F' H σ Γ v r.fz := by
  cases r with
  | d x => exact ⟨F, Same.id F, E, h⟩
  | b i => exact ⟨F, Same.id F, E, h⟩
  | o l =>
    obtain ⟨p, vs, e, h1, h2, h3, h4, h5⟩ := h
    have sF : Same F (upd F p (.lst vs)) := same_upd h1
    refine ⟨upd F p (.lst vs), sF, E.grow (Same.id H) sF (fun a u q => ?_) (fun i s m q q1 q2 q3 => ?_) (fun a o q => upd_ne (ne_of_none q h4)), p, vs, e, SqL.of upd_same, Reps.mono sF _ _ h3⟩
    · by_cases ha : a = p
      · subst ha
        rw [upd_same] at q
        rw [h2, q]
      · rw [upd_ne ha] at q
        exact E.ex a u q
    · have : q ≠ p := fun z => h5 i s m q1 q2 (by rw [q3, z])
      rw [upd_ne this]
      exact (E.muH q1 q2 q3).1
theorem rd_fz (r : R) : rd Γ r.fz = rd Γ r := by cases r <;> rfl
end
/-- an error: its class's name, its fields -/
structure XN where
  tag : Str
  fs : List (Str × PyData)
def XR (K : PySem.W.Frag) (mg : Str → Option Value) (F H : Hp) (x : XN) (cls : Value) (dd : Option Addr) : Prop :=
  mg x.tag = some cls ∧ ∃ d kvs, dd = some d ∧ H d = some (.xd kvs) ∧ kvs.map (·.1) = x.fs.map (·.1) ∧ Reps K F (kvs.map (·.2)) (x.fs.map (·.2))
abbrev XQ := XN → G → Prop
abbrev WE := G → (R → G → Prop) → XQ → Prop
def XOk (K : PySem.W.Frag) (mg : Str → Option Value) (B : Bs) (F : Hp) (W : WX) (σ : St) (X : XQ) : Prop :=
  ∀ x cls dd H' F' Γ', X x Γ' → Same F F' → EnvR K B F' H' σ Γ' → XR K mg F' H' x cls dd → W cls dd σ H'
theorem XOk.mono {K : PySem.W.Frag} {mg : Str → Option Value} {B : Bs} {F F' : Hp} {W : WX} {σ : St} {X : XQ} (h : XOk K mg B F W σ X) (e : Same F F') : XOk K mg B F' W σ X :=
  fun x cls dd H' F'' Γ' hx s => h x cls dd H' F'' Γ' hx (e.trans s)
def liftE (K : PySem.W.Frag) (mg : Str → Option Value) (W : WX) (w : WE) : TE := fun σ H Kn => ∃ B F Γ Q X, EnvR K B F H σ Γ ∧ w Γ Q X ∧
  (∀ v r H' F' Γ', Same F F' → EnvR K B F' H' σ Γ' → RR K B F' H' σ Γ' v r → Q r Γ' → Kn v H') ∧ XOk K mg B F W σ X
abbrev WT := G → (Bool → G → Prop) → XQ → Prop
def liftT (K : PySem.W.Frag) (mg : Str → Option Value) (W : WX) (w : WT) : TT := fun σ H Kn => ∃ B F Γ Q X, EnvR K B F H σ Γ ∧ w Γ Q X ∧
  (∀ b H' F' Γ', Same F F' → EnvR K B F' H' σ Γ' → Q b Γ' → Kn b H') ∧ XOk K mg B F W σ X
abbrev WA := G → (List R → G → Prop) → XQ → Prop
/-- results in a row: those that were new lists stand still now -/
def RRs (K : PySem.W.Frag) (B : Bs) (F H : Hp) (σ : St) (Γ : G) (vs : List V) : List R → Prop
  | [] => vs = []
  | r :: rs => ∃ v ws, vs = v :: ws ∧ (match r with | .d x => Rep K F v x | .o _ => False | .b i => σ[i]? = some (some v)) ∧ RRs K B F H σ Γ ws rs
def liftA (K : PySem.W.Frag) (mg : Str → Option Value) (W : WX) (w : WA) : TA := fun σ H Kn => ∃ B F Γ Q X, EnvR K B F H σ Γ ∧ w Γ Q X ∧
  (∀ vs rs H' F' Γ', Same F F' → EnvR K B F' H' σ Γ' → RRs K B F' H' σ Γ' vs rs → Q rs Γ' → Kn vs H') ∧ XOk K mg B F W σ X
structure DE (X : Cx) (W : WX) (e : Expr) (w : WE) : Prop where
  pe : PE X e (liftE X.K X.mg W w)
structure DT (X : Cx) (W : WX) (e : Expr) (w : WT) : Prop where
  pt : PT X e (liftT X.K X.mg W w)
structure DW (X : Cx) (W : WX) (e : Expr) (w : WT) : Prop where
  pw : PW X e (liftT X.K X.mg W w)
structure DA (X : Cx) (W : WX) (es : List Expr) (w : WA) : Prop where
  pa : PA X es (liftA X.K X.mg W w)
theorem _root_.L2.PE.imp {X : Cx} {e : Expr} {t t' : TE} (h : PE X e t) (k : ∀ σ H Q, t' σ H Q → t σ H Q) : PE X e t' := ⟨fun pins s σ H Q I q => h.run pins s σ H Q I (k σ H Q q)⟩
theorem _root_.L2.PT.imp {X : Cx} {e : Expr} {t t' : TT} (h : PT X e t) (k : ∀ σ H Q, t' σ H Q → t σ H Q) : PT X e t' := ⟨fun pins s σ H Q I q => h.run pins s σ H Q I (k σ H Q q)⟩
theorem _root_.L2.PW.imp {X : Cx} {e : Expr} {t t' : TT} (h : PW X e t) (k : ∀ σ H Q, t' σ H Q → t σ H Q) : PW X e t' := ⟨fun wh pins s σ H Q I q => h.run wh pins s σ H Q I (k σ H Q q)⟩
theorem _root_.L2.PA.imp {X : Cx} {es : List Expr} {t t' : TA} (h : PA X es t) (k : ∀ σ H Q, t' σ H Q → t σ H Q) : PA X es t' := ⟨fun pos pins s σ H Q I q => h.run pos pins s σ H Q I (k σ H Q q)⟩
section
variable {K : PySem.W.Frag} {B : Bs} {F F' H H' : Hp} {σ : St} {Γ Γ' : G} {v : V}
theorem RRs.mono (e : Same F F') : ∀ {rs : List R} {vs : List V}, RRs K B F H σ Γ vs rs → RRs K B F' H' σ Γ' vs rs
  | [], _, h => h
  | .d x :: rs, _, ⟨v, ws, e1, h1, h2⟩ => ⟨v, ws, e1, Rep.mono e _ _ h1, RRs.mono e h2⟩
  | .b i :: rs, _, ⟨v, ws, e1, h1, h2⟩ => ⟨v, ws, e1, h1, RRs.mono e h2⟩
  | .o _ :: rs, _, ⟨v, ws, e1, h1, h2⟩ => h1.elim
end
end DL

namespace DL
open PySem L2
section
variable {K : PySem.W.Frag} {B : Bs} {F F' H H' F1 H1 F2 H2 : Hp} {σ : St} {Γ Γ' Γ1 Γ2 : G} {v : V}
theorem get_set_self {i : Nat} {s : Sl} (h : i < Γ.length) : (Γ.set i s)[i]? = some s := by simp [h]
theorem get_set_ne {i j : Nat} {s : Sl} (h : i ≠ j) : (Γ.set i s)[j]? = Γ[j]? := List.getElem?_set_ne h
theorem lt_of_get {i : Nat} {s : Sl} (h : Γ[i]? = some s) : i < Γ.length := (List.getElem?_eq_some_iff.mp h).1
theorem set_self_eq {i : Nat} {s t : Sl} (z : (Γ.set i t)[i]? = some s) : s = t := by
  by_cases hl : i < Γ.length
  · rw [get_set_self hl] at z; exact (Option.some.inj z).symm
  · rw [List.getElem?_eq_none (by simpa using hl)] at z; cases z
/-- a slot of ours that stands still from now on -/
theorem EnvR.still (E : EnvR K B F H σ Γ) {i : Nat} {l : List PyData} (h : Γ[i]? = some (Sl.own l)) : ∃ F' v, Same F F' ∧ EnvR K B F' H σ (Γ.set i (Sl.v (.list l))) ∧ σ[i]? = some (some v) ∧ Rep K F' v (.list l) := by
  obtain ⟨p, vs, h1, h2, h3, h4, h5⟩ := E.mu i _ l h rfl
  have hl := lt_of_get h
  have sF : Same F (upd F p (.lst vs)) := same_upd h2
  have rep : Rep K (upd F p (.lst vs)) (V.ref p) (.list l) := ⟨p, vs, rfl, SqL.of upd_same, Reps.mono sF _ _ h4⟩
  refine ⟨upd F p (.lst vs), V.ref p, sF, ⟨fun a u q => ?_, ?_, fun j d hj => ?_, fun j s m hj hm => ?_, fun j q hq => ?_, fun j m hj => ?_, fun j k s t m n q hj hk hm hn e1 e2 => ?_, E.keep, fun a o q => (upd_ne (ne_of_none q (h5 rfl))).trans (E.frz a o q)⟩, h1, rep⟩
  · by_cases ha : a = p
    · subst ha
      rw [upd_same] at q
      rw [h3, q]
    · rw [upd_ne ha] at q
      exact E.ex a u q
  · rw [List.length_set]; exact E.len
  · by_cases hij : i = j
    · subst hij
      rw [get_set_self hl] at hj
      cases hj
      exact ⟨_, h1, rep⟩
    · rw [get_set_ne hij] at hj
      obtain ⟨w, q1, q2⟩ := E.val j d hj
      exact ⟨w, q1, Rep.mono sF _ _ q2⟩
  · by_cases hij : i = j
    · subst hij
      rw [get_set_self hl] at hj
      cases hj
      cases hm
    · rw [get_set_ne hij] at hj
      obtain ⟨q, ws, q1, q2, q3, q4, q5⟩ := E.mu j s m hj hm
      have hqp : q ≠ p := fun z => by
        subst z
        exact hij (E.apart i j _ s l m q h hj rfl hm h1 q1)
      exact ⟨q, ws, q1, by rw [upd_ne hqp]; exact q2, q3, Reps.mono sF _ _ q4, q5⟩
  · obtain ⟨m, q1, q2⟩ := E.pin j q hq
    have hij : i ≠ j := fun z => by subst z; rw [h] at q1; cases q1
    exact ⟨m, by rw [get_set_ne hij]; exact q1, q2⟩
  · by_cases hij : i = j
    · subst hij
      rw [get_set_self hl] at hj
      cases hj
    · rw [get_set_ne hij] at hj
      exact E.cel j m hj
  · have nj : i ≠ j := fun z => by subst z; rw [get_set_self hl] at hj; cases hj; cases hm
    have nk : i ≠ k := fun z => by subst z; rw [get_set_self hl] at hk; cases hk; cases hn
    rw [get_set_ne nj] at hj
    rw [get_set_ne nk] at hk
    exact E.apart j k s t m n q hj hk hm hn e1 e2
/-- a slot that is forgotten -/
theorem EnvR.forget (E : EnvR K B F H σ Γ) {i : Nat} (h : ∀ l, Γ[i]? ≠ some (Sl.cell l)) : EnvR K B F H σ (Γ.set i Sl.no) := by
  refine ⟨E.ex, by rw [List.length_set]; exact E.len, fun j d hj => ?_, fun j s m hj hm => ?_, fun j q hq => ?_, fun j m hj => ?_, fun j k s t m n q hj hk hm hn e1 e2 => ?_, E.keep, E.frz⟩
  · by_cases hij : i = j
    · subst hij; cases set_self_eq hj
    · rw [get_set_ne hij] at hj; exact E.val j d hj
  · by_cases hij : i = j
    · subst hij; cases set_self_eq hj; cases hm
    · rw [get_set_ne hij] at hj; exact E.mu j s m hj hm
  · obtain ⟨m, q1, q2⟩ := E.pin j q hq
    have hij : i ≠ j := fun z => by subst z; exact h m q1
    exact ⟨m, by rw [get_set_ne hij]; exact q1, q2⟩
  · by_cases hij : i = j
    · subst hij; cases set_self_eq hj
    · rw [get_set_ne hij] at hj; exact E.cel j m hj
  · have nj : i ≠ j := fun z => by subst z; cases set_self_eq hj; cases hm
    have nk : i ≠ k := fun z => by subst z; cases set_self_eq hk; cases hn
    rw [get_set_ne nj] at hj
    rw [get_set_ne nk] at hk
    exact E.apart j k s t m n q hj hk hm hn e1 e2
end
/-! ### names, constants -/
def wVar (i : Nat) : WE := fun Γ Q _ => match Γ[i]? with
  | some (.v d) => Q (.d d) Γ
  | some (.own l) => Q (.d (.list l)) (Γ.set i (.v (.list l)))
  | _ => False
/-- for an operand that is read at once -/
def wBor (i : Nat) : WE := fun Γ Q _ => match Γ[i]? with
  | some (.v d) => Q (.d d) Γ
  | some (.own _) => Q (.b i) Γ
  | some (.cell _) => Q (.b i) Γ
  | _ => False
/-- the last reading of a name -/
def wTake (i : Nat) : WE := fun Γ Q _ => match Γ[i]? with
  | some (.v d) => Q (.d d) Γ
  | some (.own l) => Q (.o l) (Γ.set i .no)
  | _ => False
def wC (d : PyData) : WE := fun Γ Q _ => Q (.d d) Γ
section
variable {X : Cx} {W : WX} {pos : Pos}
theorem de_of {e : Expr} {t : TE} {w : WE} (h : PE X e t) (k : ∀ σ H Q, liftE X.K X.mg W w σ H Q → t σ H Q) : DE X W e w := ⟨h.imp k⟩
theorem de_var {e : Expr} {i : Nat} (h : PE X e (tVar i)) : DE X W e (wVar i) := de_of h fun σ H Kn ⟨B, F, Γ, Q, Xq, E, hw, k, _⟩ => by
  unfold wVar at hw
  split at hw
  · rename_i d hd
    obtain ⟨v, h1, h2⟩ := E.val i d hd
    exact ⟨v, h1, k v (.d d) H F Γ (Same.id F) E h2 hw⟩
  · rename_i l hd
    obtain ⟨F', v, s, E', h1, h2⟩ := E.still hd
    exact ⟨v, h1, k v (.d (.list l)) H F' _ s E' h2 hw⟩
  · exact hw.elim
theorem de_bor {e : Expr} {i : Nat} (h : PE X e (tVar i)) : DE X W e (wBor i) := de_of h fun σ H Kn ⟨B, F, Γ, Q, Xq, E, hw, k, _⟩ => by
  unfold wBor at hw
  split at hw
  · rename_i d hd
    obtain ⟨v, h1, h2⟩ := E.val i d hd
    exact ⟨v, h1, k v (.d d) H F Γ (Same.id F) E h2 hw⟩
  · rename_i l hd
    obtain ⟨p, vs, h1, _⟩ := E.mu i _ l hd rfl
    exact ⟨_, h1, k _ (.b i) H F Γ (Same.id F) E ⟨h1, _, l, hd, rfl⟩ hw⟩
  · rename_i l hd
    obtain ⟨p, vs, h1, _⟩ := E.mu i _ l hd rfl
    exact ⟨_, h1, k _ (.b i) H F Γ (Same.id F) E ⟨h1, _, l, hd, rfl⟩ hw⟩
  · exact hw.elim
theorem de_take {e : Expr} {i : Nat} (h : PE X e (tVar i)) : DE X W e (wTake i) := de_of h fun σ H Kn ⟨B, F, Γ, Q, Xq, E, hw, k, _⟩ => by
  unfold wTake at hw
  split at hw
  · rename_i d hd
    obtain ⟨v, h1, h2⟩ := E.val i d hd
    exact ⟨v, h1, k v (.d d) H F Γ (Same.id F) E h2 hw⟩
  · rename_i l hd
    obtain ⟨p, vs, h1, h2, h3, h4, h5⟩ := E.mu i _ l hd rfl
    have E' : EnvR X.K B F H σ (Γ.set i Sl.no) := E.forget (i := i) fun m z => by rw [hd] at z; cases z
    refine ⟨_, h1, k _ (.o l) H F _ (Same.id F) E' ⟨p, vs, rfl, h2, h3, h4, h5 rfl, fun j s m hj hm z => ?_⟩ hw⟩
    have hij : i ≠ j := fun e => by subst e; rw [get_set_self (lt_of_get hd)] at hj; cases hj; cases hm
    rw [get_set_ne hij] at hj
    exact hij (E.apart i j _ s l m p hd hj rfl hm h1 z)
  · exact hw.elim
theorem de_c {e : Expr} {d : PyData} {v : V} (h : PE X e (tC v)) (r : ∀ H, Rep X.K H v d) : DE X W e (wC d) := de_of h fun σ H Kn ⟨B, F, Γ, Q, Xq, E, hw, k, _⟩ =>
  k v (.d d) H F Γ (Same.id F) E (r F) hw
theorem de_int {i j} : DE X W (.Constant (.int i) j pos) (wC (.int i)) := de_c pe_int fun _ => rfl
theorem de_bl {b j} : DE X W (.Constant (.bool b) j pos) (wC (.bool b)) := de_c pe_bl fun _ => rfl
theorem de_non {j} : DE X W (.Constant .none j pos) (wC .none) := de_c pe_non fun _ => rfl
theorem de_str {x j} : DE X W (.Constant (.str x) j pos) (wC (.str x)) := de_c pe_str fun _ => rfl
/-- a constant of the module -/
structure Gc (K : PySem.W.Frag) (mg : Str → Option Value) (x : Str) (d : PyData) : Prop where
  ex : ∃ v u, mg x = some u ∧ RelV v u ∧ ∀ H, Rep K H v d
theorem de_glob {x : Str} {d : PyData} (g : Gc X.K X.mg x d) (hg : Gl X x := by rfl) (hd : (x == ("__debug__" : Str)) = false := by decide) : DE X W (.Name x pos) (wC d) := by
  obtain ⟨v, u, h1, h2, h3⟩ := g.ex
  exact de_c (pe_glob hg h1 h2 hd) h3
end
/-! ### two operands -/
section
variable {K : PySem.W.Frag} {mg : Str → Option Value} {W : WX} {B : Bs} {F F' H H' F1 H1 F2 H2 : Hp} {σ : St} {Γ Γ' Γ1 Γ2 : G} {v : V}
def R.isO : R → Bool
  | .o _ => true
  | _ => false
theorem fz_isO (r : R) : r.fz.isO = false := by cases r <;> rfl
/-- a result that stood reads on -/
theorem keepR (E2 : EnvR K B F2 H2 σ Γ2) {r : R} {x : PyData} (h : RR K B F1 H1 σ Γ1 v r) (hno : r.isO = false) (s : Same F1 F2) (hr : rd Γ2 r = some x) : Sh K F2 H2 v x := by
  cases r with
  | d y => cases hr; exact Sh.of E2.ex (Rep.mono s _ _ h)
  | o l => cases hno
  | b i =>
    have hr' : rd Γ2 (.b i) = some x := hr
    unfold rd at hr
    have q : ∃ (t : Sl) (m : List PyData), Γ2[i]? = some t ∧ t.mu = some m := by
      cases e : Γ2[i]? with
      | none => simp [e] at hr
      | some t =>
        cases e2 : t.mu with
        | none => simp [e, e2] at hr
        | some m => exact ⟨t, m, rfl, e2⟩
    exact E2.sh (r := .b i) ⟨h.1, q⟩ hr'
abbrev FP := PyData → PyData → (R → Prop) → Prop
def P2 (K : PySem.W.Frag) (r : R2) (f : FP) : Prop := ∀ (B : Bs) (F H : Hp) (σ : St) (Γ : G) (u v : V) (x y : PyData) (Q : R → Prop) (Kn : VK),
  EnvR K B F H σ Γ → Sh K F H u x → Sh K F H v y → f x y Q → (∀ v r H' F', Same F F' → EnvR K B F' H' σ Γ → RR K B F' H' σ Γ v r → Q r → Kn v H') → r u v H Kn
def wBin (f : FP) (wa wb : WE) : WE := fun Γ Q X => wa Γ (fun ra Γ1 => wb Γ1 (fun rb Γ2 => match rd Γ2 ra, rd Γ2 rb with
  | some x, some y => f x y (fun r => Q r Γ2)
  | _, _ => False) X) X
theorem lift2 {r : R2} {f : FP} {wa wb : WE} {Kn : VK} (p : P2 K r f) (h : liftE K mg W (wBin f wa wb) σ H Kn) : liftE K mg W wa σ H fun x H1 => liftE K mg W wb σ H1 fun y H2 => r x y H2 Kn := by
  obtain ⟨B, F, Γ, Q, Xq, E, hw, k, kx⟩ := h
  refine ⟨B, F, Γ, _, Xq, E, hw, fun va ra Ha Fa Γa sa Ea hra hq => ?_, kx⟩
  obtain ⟨Fa', sa', Ea', hra'⟩ := Ea.fz hra
  refine ⟨B, Fa', Γa, _, Xq, Ea', hq, fun vb rb Hb Fb Γb sb Eb hrb hq2 => ?_, kx.mono (sa.trans sa')⟩
  have hq2' : match rd Γb ra, rd Γb rb with
    | some x, some y => f x y (fun r => Q r Γb)
    | _, _ => False := hq2
  cases ex : rd Γb ra with
  | none => rw [ex] at hq2'; exact hq2'.elim
  | some x =>
    cases ey : rd Γb rb with
    | none => rw [ex, ey] at hq2'; exact hq2'.elim
    | some y =>
      rw [ex, ey] at hq2'
      have sx : Sh K Fb Hb va x := keepR Eb hra' (fz_isO ra) sb (by rw [rd_fz]; exact ex)
      exact p B Fb Hb σ Γb va vb x y _ Kn Eb sx (Eb.sh hrb ey) hq2' fun v r H' F' s' E' rr q => k v r H' F' Γb (((sa.trans sa').trans sb).trans s') E' rr q
end
section
variable {X : Cx} {W : WX} {pos : Pos} {a b c : Expr} {wa wb wc : WE} {r : R2} {f : FP}
theorem de_bin {op : Operator} (p : P2 X.K r f) (ho : OpR X (binaryOp op) r) (ha : DE X W a wa) (hb : DE X W b wb) : DE X W (.BinOp a op b pos) (wBin f wa wb) :=
  de_of (pe_op ho ha.pe hb.pe) fun _ _ _ h => lift2 p h
theorem de_cmp {op : CmpOp} (p : P2 X.K r f) (ho : OpR X (compareOp op) r) (ha : DE X W a wa) (hb : DE X W b wb) (hm : behindInMarks op b = false := by first | exact nomark _ | rfl) : DE X W (.Compare a [op] [b] pos) (wBin f wa wb) :=
  de_of (pe_cmpR ho ha.pe hb.pe hm) fun _ _ _ h => lift2 p h
theorem de_ix (p : P2 X.K r f) (ho : IxR X r) (ha : DE X W a wa) (hb : DE X W b wb) (hs : PlainIx b := by exact fun _ _ => rfl) : DE X W (.Subscript a b pos) (wBin f wa wb) :=
  de_of (pe_ix ho ha.pe hb.pe hs) fun _ _ _ h => lift2 p h
end
/-! ### arguments -/
def wNil : WA := fun Γ Q _ => Q [] Γ
def wCons (w : WE) (wr : WA) : WA := fun Γ Q X => w Γ (fun r Γ1 => wr Γ1 (fun rs Γ2 => Q (r.fz :: rs) Γ2) X) X
def rds (Γ : G) : List R → Option (List PyData)
  | [] => some []
  | r :: rs => match rd Γ r, rds Γ rs with
    | some x, some xs => some (x :: xs)
    | _, _ => none
section
variable {K : PySem.W.Frag} {mg : Str → Option Value} {W : WX} {B : Bs} {F F' H H' : Hp} {σ : St} {Γ : G}
theorem RRs.shs (E : EnvR K B F H σ Γ) : ∀ {rs : List R} {vs : List V} {xs : List PyData}, RRs K B F H σ Γ vs rs → rds Γ rs = some xs → Shs K F H vs xs
  | [], _, _, h, e => by cases e; exact h
  | r :: rs, vs, xs, h, e => by
    unfold rds at e
    cases ex : rd Γ r with
    | none => simp [ex] at e
    | some x =>
      cases es : rds Γ rs with
      | none => simp [ex, es] at e
      | some ys =>
        rw [ex, es] at e
        cases e
        obtain ⟨v, ws, e1, h1, h2⟩ := h
        refine ⟨v, ws, e1, ?_, RRs.shs E h2 es⟩
        cases r with
        | d y => exact keepR (F1 := F) (H1 := H) (Γ1 := Γ) E (r := .d y) h1 rfl (Same.id F) ex
        | o l => exact h1.elim
        | b i =>
          have ex' := ex
          unfold rd at ex'
          have q : ∃ (t : Sl) (m : List PyData), Γ[i]? = some t ∧ t.mu = some m := by
            cases e : Γ[i]? with
            | none => simp [e] at ex'
            | some t =>
              cases e2 : t.mu with
              | none => simp [e, e2] at ex'
              | some m => exact ⟨t, m, rfl, e2⟩
          exact E.sh (r := .b i) ⟨h1, q⟩ ex
end
section
variable {X : Cx} {W : WX} {pos : Pos} {e : Expr} {es : List Expr} {w : WE} {wr : WA}
theorem da_of {es : List Expr} {t : TA} {w : WA} (h : PA X es t) (k : ∀ σ H Q, liftA X.K X.mg W w σ H Q → t σ H Q) : DA X W es w := ⟨h.imp k⟩
theorem da_nil : DA X W [] wNil := da_of pa_nil fun σ H Kn ⟨B, F, Γ, Q, Xq, E, hw, k, _⟩ => k [] [] H F Γ (Same.id F) E rfl hw
theorem da_cons (ha : DE X W e w) (hr : DA X W es wr) (hs : starEach (e :: es) X.env = (false, eval e X.env) :: starEach es X.env := by rfl) : DA X W (e :: es) (wCons w wr) :=
  da_of (pa_cons ha.pe hr.pa hs) fun σ H Kn ⟨B, F, Γ, Q, Xq, E, hw, k, kx⟩ => by
    refine ⟨B, F, Γ, _, Xq, E, hw, fun va ra Ha Fa Γa sa Ea hra hq => ?_, kx⟩
    obtain ⟨Fa', sa', Ea', hra'⟩ := Ea.fz hra
    refine ⟨B, Fa', Γa, _, Xq, Ea', hq, fun vs rs Hb Fb Γb sb Eb hrb hq2 => ?_, kx.mono (sa.trans sa')⟩
    refine k (va :: vs) (ra.fz :: rs) Hb Fb Γb ((sa.trans sa').trans sb) Eb ⟨va, vs, rfl, ?_, hrb⟩ hq2
    revert hra'
    cases ra with
    | d y => exact fun h => Rep.mono sb _ _ h
    | o l => exact fun h => Rep.mono sb _ _ h
    | b i => exact fun h => h.1
end
abbrev FL := List PyData → (R → Prop) → Prop
def PL (K : PySem.W.Frag) (r : List V → Hp → VK → Prop) (f : FL) : Prop := ∀ (B : Bs) (F H : Hp) (σ : St) (Γ : G) (vs : List V) (xs : List PyData) (Q : R → Prop) (Kn : VK),
  EnvR K B F H σ Γ → Shs K F H vs xs → f xs Q → (∀ v r H' F', Same F F' → EnvR K B F' H' σ Γ → RR K B F' H' σ Γ v r → Q r → Kn v H') → r vs H Kn
def wPrim (f : FL) (wa : WA) : WE := fun Γ Q X => wa Γ (fun rs Γ1 => match rds Γ1 rs with
  | some xs => f xs (fun r => Q r Γ1)
  | none => False) X
theorem liftL {K : PySem.W.Frag} {mg : Str → Option Value} {W : WX} {H : Hp} {σ : St} {r : List V → Hp → VK → Prop} {f : FL} {wa : WA} {Kn : VK} (p : PL K r f) (h : liftE K mg W (wPrim f wa) σ H Kn) :
    liftA K mg W wa σ H fun vs H1 => r vs H1 Kn := by
  obtain ⟨B, F, Γ, Q, Xq, E, hw, k, kx⟩ := h
  refine ⟨B, F, Γ, _, Xq, E, hw, fun vs rs Ha Fa Γa sa Ea hra hq => ?_, kx⟩
  have hq' : match rds Γa rs with
    | some xs => f xs (fun r => Q r Γa)
    | none => False := hq
  cases ex : rds Γa rs with
  | none => rw [ex] at hq'; exact hq'.elim
  | some xs =>
    rw [ex] at hq'
    exact p B Fa Ha σ Γa vs xs _ Kn Ea (hra.shs Ea ex) hq' fun v r H' F' s' E' rr q => k v r H' F' Γa (sa.trans s') E' rr q
section
variable {X : Cx} {W : WX} {p pos : Pos} {x : Str} {id T : String} {e : Expr} {es : List Expr} {wa : WA} {r : List V → Hp → VK → Prop} {f : FL}
theorem de_callB (pl : PL X.K r f) (hc : CallR X (.builtin id) r) (hm : X.mg x = none) (hv : bootBuiltins x = some (.builtin id)) (ha : DA X W (e :: es) wa) (hg : Gl X x := by rfl) (hn : x ≠ "__name__" := by decide) (hdb : (x == ("__debug__" : Str)) = false := by decide)
    (he : starEach (e :: es) X.env = (false, eval e X.env) :: starEach es X.env := by rfl) (hpl : (backTo pos (starEach es X.env)).any (·.1) = false := by rfl) : DE X W (.Call (.Name x p) (e :: es) [] pos) (wPrim f wa) :=
  de_of (pe_callB hc hg hm hv ha.pa hn hdb he hpl) fun _ _ _ h => liftL pl h
theorem de_callTy (pl : PL X.K r f) (hc : CallR X (.type T) r) (hm : X.mg x = none) (hv : bootBuiltins x = some (.type T)) (ha : DA X W (e :: es) wa) (hg : Gl X x := by rfl) (hn : x ≠ "__name__" := by decide) (hdb : (x == ("__debug__" : Str)) = false := by decide)
    (he : starEach (e :: es) X.env = (false, eval e X.env) :: starEach es X.env := by rfl) (hpl : (backTo pos (starEach es X.env)).any (·.1) = false := by rfl) : DE X W (.Call (.Name x p) (e :: es) [] pos) (wPrim f wa) :=
  de_of (pe_callTy hc hg hm hv ha.pa hn hdb he hpl) fun _ _ _ h => liftL pl h
end
/-! ### tests -/
def wB (w : WE) : WT := fun Γ Q X => w Γ (fun r Γ1 => ∃ c, r = .d (.bool c) ∧ Q c Γ1) X
def wAndT (a b : WT) : WT := fun Γ Q X => a Γ (fun c Γ1 => if c = true then b Γ1 Q X else Q false Γ1) X
def wOrT (a b : WT) : WT := fun Γ Q X => a Γ (fun c Γ1 => if c = true then Q true Γ1 else b Γ1 Q X) X
def wNotT (a : WT) : WT := fun Γ Q X => a Γ (fun c Γ1 => Q (!c) Γ1) X
def wAndV (a b : WE) : WE := fun Γ Q X => a Γ (fun r Γ1 => ∃ c, r = .d (.bool c) ∧ if c = true then b Γ1 Q X else Q (.d (.bool false)) Γ1) X
def wOrV (a b : WE) : WE := fun Γ Q X => a Γ (fun r Γ1 => ∃ c, r = .d (.bool c) ∧ if c = true then Q (.d (.bool true)) Γ1 else b Γ1 Q X) X
def wNotV (a : WE) : WE := fun Γ Q X => a Γ (fun r Γ1 => ∃ c, r = .d (.bool c) ∧ Q (.d (.bool (!c))) Γ1) X
def wIf (t : WT) (a b : WE) : WE := fun Γ Q X => t Γ (fun c Γ1 => if c = true then a Γ1 Q X else b Γ1 Q X) X
section
variable {X : Cx} {W : WX} {pos : Pos} {e a b c : Expr} {rest : List Expr} {w wa wb : WE} {ta tb : WT}
theorem rr_bool {K : PySem.W.Frag} {B : Bs} {F H : Hp} {σ : St} {Γ : G} {v : V} {c : Bool} (h : RR K B F H σ Γ v (.d (.bool c))) : v = .bl c := h
theorem dt_val (h : DE X W e w) (he : ∀ whole, isTrue e X.env whole = (do let v ← whole; standAt e.pos; holding [v] (truthy v)) := by intro _; rfl) : DT X W e (wB w) :=
  ⟨(pt_val h.pe he).imp fun σ H Kn ⟨B, F, Γ, Q, Xq, E, hw, k, kx⟩ => ⟨B, F, Γ, _, Xq, E, hw, fun v r H' F' Γ' s E' rr q => by
    obtain ⟨c, e1, q⟩ := q
    subst e1
    exact ⟨c, rr_bool rr, k c H' F' Γ' s E' q⟩, kx⟩⟩
theorem dt_cmp {op : CmpOp} {r : R2} {f : FP} (p : P2 X.K r f) (ho : OpR X (compareOp op) r) (ha : DE X W a wa) (hb : DE X W b wb) (hm : behindInMarks op b = false := by first | exact nomark _ | rfl) : DT X W (.Compare a [op] [b] pos) (wB (wBin f wa wb)) :=
  ⟨(pt_cmpR ho ha.pe hb.pe hm).imp fun σ H Kn ⟨B, F, Γ, Q, Xq, E, hw, k, kx⟩ => lift2 (Kn := fun x H' => ∃ k, x = .bl k ∧ Kn k H') p ⟨B, F, Γ, _, Xq, E, hw, fun v r H' F' Γ' s E' rr q => by
    obtain ⟨c, e1, q⟩ := q
    subst e1
    exact ⟨c, rr_bool rr, k c H' F' Γ' s E' q⟩, kx⟩⟩
theorem dw_and1 (ha : DT X W a ta) : DW X W (.BoolOp .And [a] pos) ta := ⟨pw_and1 ha.pt⟩
theorem dw_or1 (ha : DT X W a ta) : DW X W (.BoolOp .Or [a] pos) ta := ⟨pw_or1 ha.pt⟩
theorem dw_and (ha : DT X W a ta) (hb : DW X W (.BoolOp .And (b :: rest) pos) tb) : DW X W (.BoolOp .And (a :: b :: rest) pos) (wAndT ta tb) :=
  ⟨(pw_and ha.pt hb.pw).imp fun σ H Kn ⟨B, F, Γ, Q, Xq, E, hw, k, kx⟩ => ⟨B, F, Γ, _, Xq, E, hw, fun c H' F' Γ' s E' q => by
    cases c with
    | true => exact ⟨B, F', Γ', Q, Xq, E', q, fun b H'' F'' Γ'' s' => k b H'' F'' Γ'' (s.trans s'), kx.mono s⟩
    | false => exact k false H' F' Γ' s E' q, kx⟩⟩
theorem dw_or (ha : DT X W a ta) (hb : DW X W (.BoolOp .Or (b :: rest) pos) tb) : DW X W (.BoolOp .Or (a :: b :: rest) pos) (wOrT ta tb) :=
  ⟨(pw_or ha.pt hb.pw).imp fun σ H Kn ⟨B, F, Γ, Q, Xq, E, hw, k, kx⟩ => ⟨B, F, Γ, _, Xq, E, hw, fun c H' F' Γ' s E' q => by
    cases c with
    | false => exact ⟨B, F', Γ', Q, Xq, E', q, fun b H'' F'' Γ'' s' => k b H'' F'' Γ'' (s.trans s'), kx.mono s⟩
    | true => exact k true H' F' Γ' s E' q, kx⟩⟩
theorem DW.dt (h : DW X W e ta) : DT X W e ta := ⟨h.pw.pt⟩
theorem dt_not (ha : DT X W a ta) : DT X W (.UnaryOp .Not a pos) (wNotT ta) :=
  ⟨(pt_not ha.pt).imp fun σ H Kn ⟨B, F, Γ, Q, Xq, E, hw, k, kx⟩ => ⟨B, F, Γ, _, Xq, E, hw, fun c H' F' Γ' s E' q => k (!c) H' F' Γ' s E' q, kx⟩⟩
theorem de_one {op} (h : DE X W a w) : DE X W (.BoolOp op [a] pos) w := ⟨pe_one h.pe⟩
theorem de_and (ha : DE X W a wa) (hb : DE X W (.BoolOp .And (b :: rest) pos) wb) : DE X W (.BoolOp .And (a :: b :: rest) pos) (wAndV wa wb) :=
  de_of (pe_and ha.pe hb.pe) fun σ H Kn ⟨B, F, Γ, Q, Xq, E, hw, k, kx⟩ => ⟨B, F, Γ, _, Xq, E, hw, fun v r H' F' Γ' s E' rr q => by
    obtain ⟨c, e1, q⟩ := q
    subst e1
    refine ⟨c, rr_bool rr, ?_⟩
    cases c with
    | true => exact ⟨B, F', Γ', Q, Xq, E', q, fun v r H'' F'' Γ'' s' => k v r H'' F'' Γ'' (s.trans s'), kx.mono s⟩
    | false => exact k (.bl false) (.d (.bool false)) H' F' Γ' s E' rfl q, kx⟩
theorem de_or (ha : DE X W a wa) (hb : DE X W (.BoolOp .Or (b :: rest) pos) wb) : DE X W (.BoolOp .Or (a :: b :: rest) pos) (wOrV wa wb) :=
  de_of (pe_or ha.pe hb.pe) fun σ H Kn ⟨B, F, Γ, Q, Xq, E, hw, k, kx⟩ => ⟨B, F, Γ, _, Xq, E, hw, fun v r H' F' Γ' s E' rr q => by
    obtain ⟨c, e1, q⟩ := q
    subst e1
    refine ⟨c, rr_bool rr, ?_⟩
    cases c with
    | false => exact ⟨B, F', Γ', Q, Xq, E', q, fun v r H'' F'' Γ'' s' => k v r H'' F'' Γ'' (s.trans s'), kx.mono s⟩
    | true => exact k (.bl true) (.d (.bool true)) H' F' Γ' s E' rfl q, kx⟩
theorem de_not (ha : DE X W a wa) : DE X W (.UnaryOp .Not a pos) (wNotV wa) :=
  de_of (pe_not ha.pe) fun σ H Kn ⟨B, F, Γ, Q, Xq, E, hw, k, kx⟩ => ⟨B, F, Γ, _, Xq, E, hw, fun v r H' F' Γ' s E' rr q => by
    obtain ⟨c, e1, q⟩ := q
    subst e1
    exact ⟨c, rr_bool rr, k (.bl (!c)) (.d (.bool (!c))) H' F' Γ' s E' rfl q⟩, kx⟩
theorem de_if (hc : DT X W c ta) (ha : DE X W a wa) (hb : DE X W b wb) : DE X W (.IfExp c a b pos) (wIf ta wa wb) :=
  de_of (pe_ifExp hc.pt ha.pe hb.pe) fun σ H Kn ⟨B, F, Γ, Q, Xq, E, hw, k, kx⟩ => ⟨B, F, Γ, _, Xq, E, hw, fun d H' F' Γ' s E' q => by
    cases d with
    | true => exact ⟨B, F', Γ', Q, Xq, E', q, fun v r H'' F'' Γ'' s' => k v r H'' F'' Γ'' (s.trans s'), kx.mono s⟩
    | false => exact ⟨B, F', Γ', Q, Xq, E', q, fun v r H'' F'' Γ'' s' => k v r H'' F'' Γ'' (s.trans s'), kx.mono s⟩, kx⟩
end
end DL

namespace DL
open PySem L2
/-! ### displays, slices, methods -/
def rdF : List R → Option (List PyData)
  | [] => some []
  | .d x :: rs => match rdF rs with
    | some xs => some (x :: xs)
    | none => none
  | _ :: _ => none
section
variable {K : PySem.W.Frag} {mg : Str → Option Value} {W : WX} {B : Bs} {F F' H H' : Hp} {σ : St} {Γ : G}
theorem RRs.reps : ∀ {rs : List R} {vs : List V} {xs : List PyData}, RRs K B F H σ Γ vs rs → rdF rs = some xs → Reps K F vs xs
  | [], _, _, h, e => by cases e; exact h
  | .d x :: rs, vs, xs, ⟨v, ws, e1, h1, h2⟩, e => by
    unfold rdF at e
    cases es : rdF rs with
    | none => rw [es] at e; cases e
    | some ys =>
      rw [es] at e
      cases e
      exact ⟨v, ws, e1, h1, RRs.reps h2 es⟩
  | .o l :: rs, _, _, _, e => by cases e
  | .b i :: rs, _, _, _, e => by cases e
end
def wTup (wa : WA) : WE := fun Γ Q X => wa Γ (fun rs Γ1 => match rdF rs with
  | some xs => xs.length ≤ 1000 ∧ Q (.d (.tuple xs)) Γ1
  | none => False) X
def wLst (wa : WA) : WE := fun Γ Q X => wa Γ (fun rs Γ1 => match rdF rs with
  | some xs => xs.length ≤ 1000 ∧ Q (.o xs) Γ1
  | none => False) X
theorem le_line {n : Nat} (h : n ≤ 1000) : n ≤ sizeLine := Nat.le_trans h (by decide)
section
variable {K : PySem.W.Frag} {B : Bs} {F H : Hp} {σ : St} {Γ : G}
/-- a new list of ours -/
theorem rr_new (E : EnvR K B F H σ Γ) {p : Addr} {vs : List V} {l : List PyData} (h : H p = none) (r : Reps K F vs l) : RR K B F (upd H p (.lst vs)) σ Γ (.ref p) (.o l) := by
  refine ⟨p, vs, rfl, none_back E.ex h, upd_same, r, E.old h, fun i s m hi hm e => ?_⟩
  · obtain ⟨_, ws, h3, _⟩ := E.muH hi hm e
    rw [h] at h3; cases h3
theorem rep_tup {p : Addr} {vs : List V} {l : List PyData} (hn : F p = none) (r : Reps K F vs l) : Rep K (upd F p (.tup vs)) (.ref p) (.tuple l) :=
  ⟨p, vs, rfl, SqT.of upd_same, Reps.mono (same_upd hn) _ _ r⟩
end
section
variable {X : Cx} {W : WX} {pos : Pos} {e o : Expr} {es : List Expr} {w wo : WE} {wa : WA}
theorem de_tup {x1} (h : DA X W es wa) : DE X W (.Tuple es x1 pos) (wTup wa) := de_of (pe_tup h.pa) fun σ H Kn ⟨B, F, Γ, Q, Xq, E, hw, k, kx⟩ =>
  ⟨B, F, Γ, _, Xq, E, hw, fun vs rs H' F' Γ' s E' hr q => by
    have q' : match rdF rs with
      | some xs => xs.length ≤ 1000 ∧ Q (.d (.tuple xs)) Γ'
      | none => False := q
    cases ex : rdF rs with
    | none => rw [ex] at q'; exact q'.elim
    | some xs =>
      rw [ex] at q'
      have rp := hr.reps ex
      refine ⟨by rw [rp.len]; exact le_line q'.1, fun p hp => ?_⟩
      exact k _ (.d (.tuple xs)) _ (upd F' p (.tup vs)) Γ' (s.trans (same_upd (none_back E'.ex hp))) (E'.lay hp) (rep_tup (none_back E'.ex hp) rp) q'.2, kx⟩
theorem de_lst (h : DA X W es wa) : DE X W (.List es pos) (wLst wa) := de_of (pe_lst h.pa) fun σ H Kn ⟨B, F, Γ, Q, Xq, E, hw, k, kx⟩ =>
  ⟨B, F, Γ, _, Xq, E, hw, fun vs rs H' F' Γ' s E' hr q => by
    have q' : match rdF rs with
      | some xs => xs.length ≤ 1000 ∧ Q (.o xs) Γ'
      | none => False := q
    cases ex : rdF rs with
    | none => rw [ex] at q'; exact q'.elim
    | some xs =>
      rw [ex] at q'
      have rp := hr.reps ex
      refine ⟨by rw [rp.len]; exact le_line q'.1, fun p hp => ?_⟩
      exact k _ (.o xs) _ F' Γ' s (E'.layH hp) (rr_new E' hp rp) q'.2, kx⟩
end
abbrev WO := G → (Option Int → G → Prop) → XQ → Prop
def liftO (K : PySem.W.Frag) (mg : Str → Option Value) (W : WX) (w : WO) : TO := fun σ H Kn => ∃ B F Γ Q X, EnvR K B F H σ Γ ∧ w Γ Q X ∧
  (∀ b H' F' Γ', Same F F' → EnvR K B F' H' σ Γ' → Q b Γ' → Kn b H') ∧ XOk K mg B F W σ X
structure DO (X : Cx) (W : WX) (e : Option Expr) (w : WO) : Prop where
  po : PO X e (liftO X.K X.mg W w)
theorem _root_.L2.PO.imp {X : Cx} {e : Option Expr} {t t' : TO} (h : PO X e t) (k : ∀ σ H Q, t' σ H Q → t σ H Q) : PO X e t' := ⟨fun pins s σ H Q I q => h.run pins s σ H Q I (k σ H Q q)⟩
def wNone : WO := fun Γ Q _ => Q none Γ
def wSome (w : WE) : WO := fun Γ Q X => w Γ (fun r Γ1 => ∃ i, r = .d (.int i) ∧ Q (some i) Γ1) X
abbrev FSl := PyData → Option Int → Option Int → (R → Prop) → Prop
def PSl (K : PySem.W.Frag) (r : V → Option Int → Option Int → Hp → VK → Prop) (f : FSl) : Prop := ∀ (B : Bs) (F H : Hp) (σ : St) (Γ : G) (u : V) (x : PyData) (lo hi : Option Int) (Q : R → Prop) (Kn : VK),
  EnvR K B F H σ Γ → Sh K F H u x → f x lo hi Q → (∀ v r H' F', Same F F' → EnvR K B F' H' σ Γ → RR K B F' H' σ Γ v r → Q r → Kn v H') → r u lo hi H Kn
def wSl (f : FSl) (w : WE) (wl wh : WO) : WE := fun Γ Q X => w Γ (fun r Γ1 => wl Γ1 (fun lo Γ2 => wh Γ2 (fun hi Γ3 => match rd Γ3 r with
  | some x => f x lo hi (fun r => Q r Γ3)
  | none => False) X) X) X
section
variable {X : Cx} {W : WX} {pos p2 : Pos} {e : Expr} {lo hi : Option Expr} {w : WE} {wl wh : WO}
theorem do_none : DO X W none wNone := ⟨po_none.imp fun σ H Kn ⟨B, F, Γ, Q, Xq, E, hw, k, kx⟩ => k none H F Γ (Same.id F) E hw⟩
theorem do_some (h : DE X W e w) : DO X W (some e) (wSome w) := ⟨(po_some h.pe).imp fun σ H Kn ⟨B, F, Γ, Q, Xq, E, hw, k, kx⟩ => ⟨B, F, Γ, _, Xq, E, hw, fun v r H' F' Γ' s E' rr q => by
  obtain ⟨i, e1, q⟩ := q
  subst e1
  exact ⟨i, rr, k (some i) H' F' Γ' s E' q⟩, kx⟩⟩
theorem de_sl {r : V → Option Int → Option Int → Hp → VK → Prop} {f : FSl} (p : PSl X.K r f) (hr : SlR X r) (he : DE X W e w) (hl : DO X W lo wl) (hu : DO X W hi wh) : DE X W (.Subscript e (.Slice lo hi none p2) pos) (wSl f w wl wh) :=
  de_of (pe_slice hr he.pe hl.po hu.po) fun σ H Kn ⟨B, F, Γ, Q, Xq, E, hw, k, kx⟩ => ⟨B, F, Γ, _, Xq, E, hw, fun v r H1 F1 Γ1 s1 E1 rr q1 => by
    obtain ⟨F1', s1', E1', rr'⟩ := E1.fz rr
    refine ⟨B, F1', Γ1, _, Xq, E1', q1, fun l H2 F2 Γ2 s2 E2 q2 => ⟨B, F2, Γ2, _, Xq, E2, q2, fun u H3 F3 Γ3 s3 E3 q3 => ?_, kx.mono ((s1.trans s1').trans s2)⟩, kx.mono (s1.trans s1')⟩
    have q3' : match rd Γ3 r with
      | some x => f x l u (fun r => Q r Γ3)
      | none => False := q3
    cases ex : rd Γ3 r with
    | none => rw [ex] at q3'; exact q3'.elim
    | some x =>
      rw [ex] at q3'
      have sx : Sh X.K F3 H3 v x := keepR E3 rr' (fz_isO r) (s2.trans s3) (by rw [rd_fz]; exact ex)
      exact p B F3 H3 σ Γ3 v x l u _ Kn E3 sx q3' fun v r H' F' s' E' rr q => k v r H' F' Γ3 ((((s1.trans s1').trans s2).trans s3).trans s') E' rr q, kx⟩
end
/-- s.m(), s.m(e): s a text -/
def wM0 (f : PyData → (R → Prop) → Prop) (wo : WE) : WE := fun Γ Q X => wo Γ (fun ro Γ1 => ∃ s, ro = .d (.str s) ∧ f (.str s) (fun r => Q r Γ1)) X
def wM1 (f : FP) (wo we : WE) : WE := fun Γ Q X => wo Γ (fun ro Γ1 => ∃ s, ro = .d (.str s) ∧ we Γ1 (fun re Γ2 => match rd Γ2 re with
  | some y => f (.str s) y (fun r => Q r Γ2)
  | none => False) X) X
def P1 (K : PySem.W.Frag) (r : V → Hp → VK → Prop) (f : PyData → (R → Prop) → Prop) : Prop := ∀ (B : Bs) (F H : Hp) (σ : St) (Γ : G) (u : V) (x : PyData) (Q : R → Prop) (Kn : VK),
  EnvR K B F H σ Γ → Sh K F H u x → f x Q → (∀ v r H' F', Same F F' → EnvR K B F' H' σ Γ → RR K B F' H' σ Γ v r → Q r → Kn v H') → r u H Kn
section
variable {X : Cx} {W : WX} {e o : Expr} {we wo : WE} {id : String} {name : Str} {apos pos : Pos} {r : V → List V → Hp → VK → Prop}
theorem de_m1 {f : FP} (p : P2 X.K (fun x y H Q => r x [y] H Q) f) (slot : Slot "str" name id) (ty : typeOf (.builtin id) = pure (.type "method_descriptor")) (rule : MtR X id r) (ho : DE X W o wo) (he : DE X W e we)
    (hs : starEach [e] X.env = [(false, eval e X.env)] := by rfl) (hbase : attributeBase o name X.env (eval o X.env) = eval o X.env := by rfl) (hline : (apos.endLine == pos.line) = true := by rfl) :
    DE X W (.Call (.Attribute o name apos) [e] [] pos) (wM1 f wo we) :=
  de_of (pe_m1 slot ty rule ho.pe he.pe hs hbase hline) fun σ H Kn ⟨B, F, Γ, Q, Xq, E, hw, k, kx⟩ => ⟨B, F, Γ, _, Xq, E, hw, fun v ro H1 F1 Γ1 s1 E1 rr q1 => by
    obtain ⟨s, e1, q1⟩ := q1
    subst e1
    refine ⟨⟨s, rr⟩, B, F1, Γ1, _, Xq, E1, q1, fun u re H2 F2 Γ2 s2 E2 rr2 q2 => ?_, kx.mono s1⟩
    have q2' : match rd Γ2 re with
      | some y => f (.str s) y (fun r => Q r Γ2)
      | none => False := q2
    cases ex : rd Γ2 re with
    | none => rw [ex] at q2'; exact q2'.elim
    | some y =>
      rw [ex] at q2'
      exact p B F2 H2 σ Γ2 v u (.str s) y _ Kn E2 rr (E2.sh rr2 ex) q2' fun v r H' F' s' E' rr q => k v r H' F' Γ2 ((s1.trans s2).trans s') E' rr q, kx⟩
theorem de_m0 {f : PyData → (R → Prop) → Prop} (p : P1 X.K (fun x H Q => r x [] H Q) f) (slot : Slot "str" name id) (ty : typeOf (.builtin id) = pure (.type "method_descriptor")) (rule : MtR X id r) (ho : DE X W o wo)
    (hbase : attributeBase o name X.env (eval o X.env) = eval o X.env := by rfl) (hline : (apos.endLine == pos.line) = true := by rfl) :
    DE X W (.Call (.Attribute o name apos) [] [] pos) (wM0 f wo) :=
  de_of (pe_m0 slot ty rule ho.pe hbase hline) fun σ H Kn ⟨B, F, Γ, Q, Xq, E, hw, k, kx⟩ => ⟨B, F, Γ, _, Xq, E, hw, fun v ro H1 F1 Γ1 s1 E1 rr q1 => by
    obtain ⟨s, e1, q1⟩ := q1
    subst e1
    exact ⟨⟨s, rr⟩, p B F1 H1 σ Γ1 v (.str s) _ Kn E1 rr q1 fun v r H' F' s' E' rr q => k v r H' F' Γ1 (s1.trans s') E' rr q⟩, kx⟩
end
/-! ### calls of defs -/
abbrev FS := List Sl → (R → List (List PyData) → Prop) → (XN → Prop) → Prop
def CellsR (K : PySem.W.Frag) (F H : Hp) : List V → List Sl → List (List PyData) → Prop
  | v :: vs, .cell _ :: as, c :: cs => (∃ p ws, v = .ref p ∧ F p = none ∧ H p = some (.lst ws) ∧ Reps K F ws c) ∧ CellsR K F H vs as cs
  | _ :: _, .cell _ :: _, [] => False
  | _ :: vs, _ :: as, cs => CellsR K F H vs as cs
  | [], [], [] => True
  | _, _, _ => False
/-- a result of a call, in the callee's own terms: free of the caller's things -/
def RC (K : PySem.W.Frag) (H0 F H : Hp) (v : V) : R → Prop
  | .d x => Rep K F v x
  | .o l => ∃ p vs, v = .ref p ∧ F p = none ∧ H p = some (.lst vs) ∧ Reps K F vs l ∧ H0 p = none
  | .b _ => False
def spOf (K : PySem.W.Frag) (mg : Str → Option Value) (fs : FS) : Sp := fun vs H Q E => ∃ pin F as Q' X', EnvR K ⟨H, F, pin⟩ F H (vs.map some) as ∧ (∀ s ∈ as, ∀ l, s ≠ Sl.own l) ∧ fs as Q' X' ∧
  (∀ v r H' F' cs, Same F F' → Same F' H' → keepB ⟨H, F, pin⟩ H' → (∀ a o, H a = some o → F' a = F a) → CellsR K F' H' vs as cs → RC K H F' H' v r → Q' r cs → Q v H') ∧
  (∀ x cls dd H' F', X' x → Same F F' → Same F' H' → keepB ⟨H, F, pin⟩ H' → (∀ a o, H a = some o → F' a = F a) → XR K mg F' H' x cls dd → E cls dd H')
/-- a def that keeps fs -/
structure Ca (P : Program) (w : World) (K : PySem.W.Frag) (mg : Str → Option Value) (base : Heap) (x : Str) (k : Nat) (fs : FS) : Prop where
  ex : ∃ f fd ps, FnOk P w K mg base (L2.CX P w) k f fd ps (spOf K mg fs) ∧ mg x = some (.ref f) ∧ PySem.W.keepIn K (.ref f) = true ∧ Binds K fd ps []
theorem Ca.mono {P : Program} {w : World} {K : PySem.W.Frag} {mg : Str → Option Value} {base : Heap} {x : Str} {j k : Nat} {fs : FS} (c : Ca P w K mg base x j fs) (h : j ≤ k) : Ca P w K mg base x k fs := by
  obtain ⟨f, fd, ps, h1, h2⟩ := c.ex
  exact ⟨f, fd, ps, h1.mono h, h2⟩
def argSl (Γ : G) : R → Option Sl
  | .d x => some (.v x)
  | .o l => some (.v (.list l))
  | .b i => match Γ[i]? with
    | some s => s.mu.map Sl.cell
    | none => none
def argSls (Γ : G) : List R → Option (List Sl)
  | [] => some []
  | r :: rs => match argSl Γ r, argSls Γ rs with
    | some s, some ss => some (s :: ss)
    | _, _ => none
def noB : List R → Bool
  | [] => true
  | .b _ :: _ => false
  | _ :: rs => noB rs
def fewB : List R → Bool
  | [] => true
  | .b _ :: rs => noB rs
  | _ :: rs => fewB rs
/-- behind a call: what became of the one list that was handed on -/
def putB (Γ : G) : List R → List (List PyData) → Option G
  | [], _ => some Γ
  | .b i :: _, c :: _ => match Γ[i]? with
    | some s => some (Γ.set i (s.put c))
    | none => none
  | .b _ :: _, [] => none
  | _ :: rs, cs => putB Γ rs cs
def wCall (fs : FS) (wa : WA) : WE := fun Γ Q X => wa Γ (fun rs Γ1 => fewB rs = true ∧ match argSls Γ1 rs with
  | some as => fs as (fun r cs => match putB Γ1 rs cs with | some Γ2 => Q r Γ2 | none => True) (fun x => noB rs = true ∧ X x Γ1)
  | none => False) X
end DL

namespace DL
open PySem L2
section
variable {K : PySem.W.Frag} {mg : Str → Option Value} {W : WX} {B : Bs} {F F' H H' : Hp} {σ : St} {Γ : G}
theorem mu_put {s : Sl} {l c : List PyData} (h : s.mu = some l) : (s.put c).mu = some c := by cases s <;> first | rfl | cases h
theorem put_own {s : Sl} {l c m : List PyData} (h : s.mu = some l) (e : s.put c = Sl.own m) : s = Sl.own l := by
  cases s <;> first | cases h | skip
  · rfl
  · cases e
theorem put_cell {s : Sl} {l c m : List PyData} (h : s.mu = some l) (e : s.put c = Sl.cell m) : s = Sl.cell l := by
  cases s <;> first | cases h | skip
  · cases e
  · rfl
/-- a list of ours is written -/
theorem EnvR.write (E : EnvR K B F H σ Γ) {i : Nat} {s : Sl} {l c : List PyData} {p : Addr} {ws : List V} (hi : Γ[i]? = some s) (hm : s.mu = some l) (hp : σ[i]? = some (some (V.ref p)))
    (k : ∀ a o, a ≠ p → H a = some o → H' a = some o) (e2 : Same F F') (e3 : Same F' H') (hn : ∀ a o, H a = some o → F' a = F a) (h' : H' p = some (.lst ws)) (hr : Reps K F' ws c)
    (hf : ∀ (a : Addr) (o : HO), B.H0 a = some o → F' a = F a) : EnvR K B F' H' σ (Γ.set i (s.put c)) := by
  obtain ⟨q, vs, q1, q2, q3, q4, q5⟩ := E.mu i s l hi hm
  rw [hp] at q1
  cases q1
  have hl := lt_of_get hi
  refine ⟨e3, by rw [List.length_set]; exact E.len, fun j d hj => ?_, fun j t m hj ht => ?_, fun j q hq => ?_, fun j m hj => ?_, fun j n t u m m' q hj hk ht hu e1 e2 => ?_, fun a o ha hb => ?_, fun a o q => (hf a o q).trans (E.frz a o q)⟩
  · by_cases hij : i = j
    · subst hij
      rw [get_set_self hl] at hj
      have := mu_put (c := c) hm
      rw [Option.some.inj hj] at this
      cases this
    · rw [get_set_ne hij] at hj
      obtain ⟨w, a1, a2⟩ := E.val j d hj
      exact ⟨w, a1, Rep.mono e2 _ _ a2⟩
  · by_cases hij : i = j
    · subst hij
      rw [get_set_self hl] at hj
      cases hj
      rw [mu_put hm] at ht
      cases ht
      exact ⟨p, ws, hp, (hn p _ q3).trans q2, h', hr, fun e => q5 (by rw [put_own hm e])⟩
    · rw [get_set_ne hij] at hj
      obtain ⟨q, us, a1, a2, a3, a4, a5⟩ := E.mu j t m hj ht
      have hqp : q ≠ p := fun z => by
        subst z
        exact hij (E.apart i j s t l m q hi hj hm ht hp a1)
      exact ⟨q, us, a1, (hn q _ a3).trans a2, k q _ hqp a3, Reps.mono e2 _ _ a4, a5⟩
  · obtain ⟨m, a1, a2⟩ := E.pin j q hq
    by_cases hij : i = j
    · subst hij
      rw [hi] at a1
      cases a1
      exact ⟨c, by rw [get_set_self hl]; rfl, a2⟩
    · exact ⟨m, by rw [get_set_ne hij]; exact a1, a2⟩
  · by_cases hij : i = j
    · subst hij
      rw [get_set_self hl] at hj
      have := put_cell hm (Option.some.inj hj)
      subst this
      exact E.cel i l hi
    · rw [get_set_ne hij] at hj
      exact E.cel j m hj
  · have back : ∀ {j : Nat} {t : Sl} {m : List PyData}, (Γ.set i (s.put c))[j]? = some t → t.mu = some m → ∃ (t' : Sl) (m' : List PyData), Γ[j]? = some t' ∧ t'.mu = some m' := fun {j t m} hj ht => by
      by_cases hij : i = j
      · subst hij; exact ⟨s, l, hi, hm⟩
      · rw [get_set_ne hij] at hj; exact ⟨t, m, hj, ht⟩
    obtain ⟨t', m1, b1, b2⟩ := back hj ht
    obtain ⟨u', m2, b3, b4⟩ := back hk hu
    exact E.apart j n t' u' m1 m2 q b1 b3 b2 b4 e1 e2
  · have hap : a ≠ p := fun z => by
      subst z
      cases s with
      | no => cases hm
      | v _ => cases hm
      | own m => rw [q5 (by cases hm; rfl)] at ha; cases ha
      | cell m =>
        obtain ⟨p', hp'⟩ := E.cel i m hi
        obtain ⟨_, _, b2⟩ := E.pin i p' hp'
        rw [hp] at b2
        cases b2
        exact hb i hp'
    exact k a o hap (E.keep a o ha hb)
end
/-! ### a call -/
section
variable {K : PySem.W.Frag} {mg : Str → Option Value} {W : WX} {B : Bs} {F F' H H' : Hp} {σ : St} {Γ : G}
theorem args_at : ∀ {rs : List R} {vs : List V} {as : List Sl}, RRs K B F H σ Γ vs rs → argSls Γ rs = some as → vs.length = as.length ∧ ∀ (j : Nat) (s : Sl), as[j]? = some s → ∃ (v : V) (r : R), vs[j]? = some v ∧ rs[j]? = some r ∧ argSl Γ r = some s ∧
    (match r with | .d x => Rep K F v x | .o _ => False | .b i => σ[i]? = some (some v))
  | [], vs, as, h, e => by
    rw [show vs = [] from h]
    cases e
    exact ⟨rfl, fun j s q => by simp at q⟩
  | r :: rs, vs, as, h, e => by
    unfold argSls at e
    cases ea : argSl Γ r with
    | none => rw [ea] at e; cases e
    | some s0 =>
      cases es : argSls Γ rs with
      | none => rw [ea, es] at e; cases e
      | some ss =>
        rw [ea, es] at e
        cases e
        obtain ⟨v, ws, e1, h1, h2⟩ := h
        subst e1
        obtain ⟨hl, hg⟩ := args_at h2 es
        refine ⟨by rw [List.length_cons, List.length_cons, hl], fun j s q => ?_⟩
        cases j with
        | zero => simp at q; subst q; exact ⟨v, r, rfl, rfl, ea, h1⟩
        | succ j =>
          obtain ⟨v', r', a1, a2, a3⟩ := hg j s (by simpa using q)
          exact ⟨v', r', by simpa using a1, by simpa using a2, a3⟩
theorem noB_at : ∀ {rs : List R} {i a : Nat}, noB rs = true → rs[i]? ≠ some (R.b a)
  | [], _, _, _ => by simp
  | .b _ :: _, _, _, h => by cases h
  | .d _ :: rs, 0, _, _ => by simp
  | .o _ :: rs, 0, _, _ => by simp
  | .d _ :: rs, i + 1, a, h => by simpa using noB_at (rs := rs) (i := i) (a := a) h
  | .o _ :: rs, i + 1, a, h => by simpa using noB_at (rs := rs) (i := i) (a := a) h
theorem fewB_at : ∀ {rs : List R} {i j a b : Nat}, fewB rs = true → rs[i]? = some (R.b a) → rs[j]? = some (R.b b) → i = j
  | [], _, _, _, _, _, h, _ => by simp at h
  | .b _ :: rs, 0, 0, _, _, _, _, _ => rfl
  | .b _ :: rs, i + 1, _, a, _, h, h1, _ => absurd (by simpa using h1) (noB_at (rs := rs) (i := i) (a := a) h)
  | .b _ :: rs, _, j + 1, _, b, h, _, h2 => absurd (by simpa using h2) (noB_at (rs := rs) (i := j) (a := b) h)
  | .d _ :: rs, 0, _, _, _, _, h1, _ => by simp at h1
  | .d _ :: rs, _, 0, _, _, _, _, h2 => by simp at h2
  | .o _ :: rs, 0, _, _, _, _, h1, _ => by simp at h1
  | .o _ :: rs, _, 0, _, _, _, _, h2 => by simp at h2
  | .d _ :: rs, i + 1, j + 1, a, b, h, h1, h2 => by rw [fewB_at (rs := rs) (i := i) (j := j) h (by simpa using h1) (by simpa using h2)]
  | .o _ :: rs, i + 1, j + 1, a, b, h, h1, h2 => by rw [fewB_at (rs := rs) (i := i) (j := j) h (by simpa using h1) (by simpa using h2)]
def pinC (rs : List R) (vs : List V) (j : Nat) : Option Addr := match rs[j]?, vs[j]? with
  | some (.b _), some (.ref p) => some p
  | _, _ => none
theorem pinC_some {rs : List R} {vs : List V} {j : Nat} {p : Addr} (h : pinC rs vs j = some p) : ∃ i, rs[j]? = some (R.b i) ∧ vs[j]? = some (V.ref p) := by
  unfold pinC at h
  split at h
  · rename_i i q h1 h2
    cases h
    exact ⟨i, h1, h2⟩
  · cases h
theorem call_env (E : EnvR K B F H σ Γ) {rs : List R} {vs : List V} {as : List Sl} (hr : RRs K B F H σ Γ vs rs) (few : fewB rs = true) (ha : argSls Γ rs = some as) :
    EnvR K ⟨H, F, pinC rs vs⟩ F H (vs.map some) as ∧ ∀ s ∈ as, ∀ l, s ≠ Sl.own l := by
  obtain ⟨hl, hg⟩ := args_at hr ha
  have look : ∀ {j : Nat} {v : V}, vs[j]? = some v → (vs.map some)[j]? = some (some v) := fun {j v} h => by rw [List.getElem?_map, h]; rfl
  have at_cell : ∀ {j : Nat} {s : Sl} {l : List PyData}, as[j]? = some s → s.mu = some l → ∃ i p t, rs[j]? = some (R.b i) ∧ vs[j]? = some (V.ref p) ∧ Γ[i]? = some t ∧ t.mu = some l ∧ σ[i]? = some (some (V.ref p)) ∧ s = Sl.cell l := fun {j s l} h hm => by
    obtain ⟨v, r, h1, h2, h3, h4⟩ := hg j s h
    cases r with
    | d x => cases h3; cases hm
    | o x => exact h4.elim
    | b i =>
      have h3' : (match Γ[i]? with | some s => s.mu.map Sl.cell | none => none) = some s := h3
      cases e : Γ[i]? with
      | none => rw [e] at h3'; cases h3'
      | some t =>
        rw [e] at h3'
        have h3'' : t.mu.map Sl.cell = some s := h3'
        cases e2 : t.mu with
        | none => rw [e2] at h3''; cases h3''
        | some m =>
          rw [e2] at h3''
          cases h3''
          cases hm
          obtain ⟨p, ws, b1, _⟩ := E.mu i t _ e e2
          have h4' : σ[i]? = some (some v) := h4
          rw [b1] at h4'
          cases h4'
          exact ⟨i, p, t, h2, h1, e, e2, b1, rfl⟩
  have shape : ∀ {j : Nat} {s : Sl}, as[j]? = some s → (∃ d, s = Sl.v d) ∨ ∃ l, s = Sl.cell l := fun {j s} h => by
    obtain ⟨v, r, h1, h2, h3, h4⟩ := hg j s h
    cases r with
    | d x => cases h3; exact .inl ⟨_, rfl⟩
    | o x => exact h4.elim
    | b i =>
      have h3' : (match Γ[i]? with | some s => s.mu.map Sl.cell | none => none) = some s := h3
      cases e : Γ[i]? with
      | none => rw [e] at h3'; cases h3'
      | some t =>
        rw [e] at h3'
        have h3'' : t.mu.map Sl.cell = some s := h3'
        cases e2 : t.mu with
        | none => rw [e2] at h3''; cases h3''
        | some m => rw [e2] at h3''; cases h3''; exact .inr ⟨_, rfl⟩
  refine ⟨⟨E.ex, by rw [List.length_map]; exact hl, fun j d hj => ?_, fun j s l hj hm => ?_, fun j p hp => ?_, fun j l hj => ?_, fun i j s t l m p h1 h2 h3 h4 _ _ => ?_, fun a o h _ => h, fun _ _ _ => rfl⟩, fun s hs l e => ?_⟩
  · obtain ⟨v, r, h1, h2, h3, h4⟩ := hg j _ hj
    cases r with
    | d x => cases h3; exact ⟨v, look h1, h4⟩
    | o x => exact h4.elim
    | b i =>
      have h3' : (match Γ[i]? with | some s => s.mu.map Sl.cell | none => none) = some (Sl.v d) := h3
      cases e : Γ[i]? with
      | none => rw [e] at h3'; cases h3'
      | some t =>
        rw [e] at h3'
        have h3'' : t.mu.map Sl.cell = some (Sl.v d) := h3'
        cases e2 : t.mu with
        | none => rw [e2] at h3''; cases h3''
        | some m => rw [e2] at h3''; cases h3''
  · obtain ⟨i, p, t, b1, b2, b3, b4, b5, b6⟩ := at_cell hj hm
    obtain ⟨c1, ws, c2, c3⟩ := E.muH b3 b4 b5
    exact ⟨p, ws, look b2, c1, c2, c3, fun e => by rw [b6] at e; cases e⟩
  · obtain ⟨i, b1, b2⟩ := pinC_some hp
    have hj : j < as.length := by rw [← hl]; exact (List.getElem?_eq_some_iff.mp b2).1
    obtain ⟨v, r, h1, h2, h3, h4⟩ := hg j _ (List.getElem?_eq_getElem hj)
    rw [b1] at h2
    cases h2
    rcases shape (List.getElem?_eq_getElem hj) with ⟨d, e⟩ | ⟨l, e⟩
    · rw [e] at h3
      have h3' : (match Γ[i]? with | some s => s.mu.map Sl.cell | none => none) = some (Sl.v d) := h3
      cases e : Γ[i]? with
      | none => rw [e] at h3'; cases h3'
      | some t =>
        rw [e] at h3'
        have h3'' : t.mu.map Sl.cell = some (Sl.v d) := h3'
        cases e2 : t.mu with
        | none => rw [e2] at h3''; cases h3''
        | some m => rw [e2] at h3''; cases h3''
    · exact ⟨l, by rw [List.getElem?_eq_getElem hj, e], look b2⟩
  · obtain ⟨i, p, t, b1, b2, b3, b4, b5, b6⟩ := at_cell hj rfl
    exact ⟨p, by show pinC rs vs j = some p; unfold pinC; rw [b1, b2]⟩
  · obtain ⟨_, _, _, b1, _⟩ := at_cell h1 h3
    obtain ⟨_, _, _, c1, _⟩ := at_cell h2 h4
    exact fewB_at few b1 c1
  · obtain ⟨j, hj, hjs⟩ := List.getElem_of_mem hs
    have := shape (List.getElem?_eq_some_iff.mpr ⟨hj, hjs⟩)
    rcases this with ⟨d, e'⟩ | ⟨m, e'⟩ <;> rw [e] at e' <;> cases e'
/-- where the one handed list stands -/
theorem few_at : ∀ {rs : List R} {vs : List V} {as : List Sl} {cs : List (List PyData)} {Γ' : G}, RRs K B F H σ Γ vs rs → argSls Γ rs = some as → fewB rs = true → CellsR K F' H' vs as cs → putB Γ rs cs = some Γ' →
    (noB rs = true ∧ Γ' = Γ) ∨ ∃ (i : Nat) (s : Sl) (l : List PyData) (p : Addr) (c : List PyData) (ws : List V), (∃ j : Nat, rs[j]? = some (R.b i) ∧ vs[j]? = some (V.ref p)) ∧ Γ[i]? = some s ∧ s.mu = some l ∧ σ[i]? = some (some (V.ref p)) ∧ Γ' = Γ.set i (s.put c) ∧ H' p = some (.lst ws) ∧ Reps K F' ws c
  | [], vs, as, cs, Γ', _, _, _, _, e => by cases e; exact .inl ⟨rfl, rfl⟩
  | .o _ :: _, _, _, _, _, ⟨_, _, _, h, _⟩, _, _, _, _ => h.elim
  | .d x :: rs, vs, as, cs, Γ', ⟨v, ws, e1, h1, h2⟩, ha, few, hc, hp => by
    subst e1
    unfold argSls at ha
    cases es : argSls Γ rs with
    | none => simp [argSl, es] at ha
    | some ss =>
      have ha' : as = Sl.v x :: ss := by simp [argSl, es] at ha; exact ha.symm
      subst ha'
      rcases few_at h2 es few hc hp with q | ⟨i, s, l, p, c, us, ⟨j, a1, a2⟩, q⟩
      · exact .inl q
      · exact .inr ⟨i, s, l, p, c, us, ⟨j + 1, by simpa using a1, by simpa using a2⟩, q⟩
  | .b i :: rs, vs, as, cs, Γ', ⟨v, ws, e1, h1, h2⟩, ha, few, hc, hp => by
    subst e1
    unfold argSls at ha
    cases e : Γ[i]? with
    | none => simp [argSl, e] at ha
    | some t =>
      cases e2 : t.mu with
      | none => simp [argSl, e, e2] at ha
      | some m =>
        cases es : argSls Γ rs with
        | none => simp [argSl, e, e2, es] at ha
        | some ss =>
          have ha' : as = Sl.cell m :: ss := by simp [argSl, e, e2, es] at ha; exact ha.symm
          subst ha'
          cases cs with
          | nil => exact (show False from hc).elim
          | cons c cs =>
            have hc' : (∃ p ws, v = V.ref p ∧ F' p = none ∧ H' p = some (.lst ws) ∧ Reps K F' ws c) ∧ CellsR K F' H' ws ss cs := hc
            obtain ⟨⟨p, us, b1, b2, b3, b4⟩, _⟩ := hc'
            subst b1
            have hp' : (match Γ[i]? with | some s => some (Γ.set i (s.put c)) | none => none) = some Γ' := hp
            rw [e] at hp'
            cases hp'
            exact .inr ⟨i, t, m, p, c, us, ⟨0, rfl, rfl⟩, e, e2, h1, rfl, b3, b4⟩
theorem call_back (E : EnvR K B F H σ Γ) {rs : List R} {vs : List V} {as : List Sl} {cs : List (List PyData)} {Γ' : G} (hr : RRs K B F H σ Γ vs rs) (ha : argSls Γ rs = some as) (few : fewB rs = true)
    (s1 : Same F F') (s2 : Same F' H') (kp : keepB ⟨H, F, pinC rs vs⟩ H') (fz : ∀ a o, H a = some o → F' a = F a) (hc : CellsR K F' H' vs as cs) (hp : putB Γ rs cs = some Γ') : EnvR K B F' H' σ Γ' := by
  have hf : ∀ a o, B.H0 a = some o → F' a = F a := fun a o h => by
    cases q : H a with
    | some u => exact fz a u q
    | none => rw [E.old q] at h; cases h
  rcases few_at hr ha few hc hp with ⟨n, e⟩ | ⟨i, s, l, p, c, ws, ⟨j, a1, a2⟩, b1, b2, b3, b4, b5, b6⟩
  · subst e
    have sH : Same H H' := fun a o h => kp a o h fun j z => by
      obtain ⟨i, b1, _⟩ := pinC_some z
      exact noB_at n b1
    exact E.grow sH s1 s2 (fun i s l q h1 h2 h3 => by
      obtain ⟨c1, ws, c2, _⟩ := E.muH h1 h2 h3
      rw [fz q _ c2]; exact c1) hf
  · subst b4
    refine E.write b1 b2 b3 (fun a o n h => kp a o h fun j' z => ?_) s1 s2 fz b5 b6 hf
    obtain ⟨i', c1, c2⟩ := pinC_some z
    have := fewB_at few a1 c1
    subst this
    rw [a2] at c2
    cases c2
    exact n rfl
theorem rc_rr (E : EnvR K B F H σ Γ) {Γ' : G} {v : V} {r : R} (hmu : ∀ (i : Nat) (s : Sl) (m : List PyData), Γ'[i]? = some s → s.mu = some m → ∃ (s' : Sl) (m' : List PyData), Γ[i]? = some s' ∧ s'.mu = some m') (h : RC K H F' H' v r) : RR K B F' H' σ Γ' v r := by
  cases r with
  | d x => exact h
  | b i => exact h.elim
  | o l =>
    obtain ⟨p, vs, e, h1, h2, h3, h4⟩ := h
    refine ⟨p, vs, e, h1, h2, h3, E.old h4, fun i s m q1 q2 z => ?_⟩
    obtain ⟨s', m', c1, c2⟩ := hmu i s m q1 q2
    obtain ⟨_, ws, c3, _⟩ := E.muH c1 c2 z
    rw [h4] at c3; cases c3
theorem lift_call {fs : FS} {wa : WA} {Kn : VK} (h : liftE K mg W (wCall fs wa) σ H Kn) : liftA K mg W wa σ H fun vs H1 => spOf K mg fs vs H1 Kn (L2.WE W σ) := by
  obtain ⟨B, F, Γ, Q, Xq, E, hw, k, kx⟩ := h
  refine ⟨B, F, Γ, _, Xq, E, hw, fun vs rs H1 F1 Γ1 s1 E1 rr q => ?_, kx⟩
  obtain ⟨few, q⟩ := q
  cases ea : argSls Γ1 rs with
  | none => rw [ea] at q; exact q.elim
  | some as =>
    rw [ea] at q
    obtain ⟨Ec, noown⟩ := call_env E1 rr few ea
    refine ⟨pinC rs vs, F1, as, _, _, Ec, noown, q, fun v r H' F' cs a1 a2 a3 a4 a5 a6 a7 => ?_, fun x cls dd H' F' a1 a2 a3 a4 a5 a6 => ?_⟩
    · cases ep : putB Γ1 rs cs with
      | none =>
        -- every handed list has its end
        exfalso
        have : ∀ (rs : List R) (vs : List V) (as : List Sl) (cs : List (List PyData)), argSls Γ1 rs = some as → CellsR K F' H' vs as cs → putB Γ1 rs cs ≠ none := by
          intro rs
          induction rs with
          | nil => intro vs as cs _ _ z; cases z
          | cons r rs ih =>
            intro vs as cs ha hc z
            unfold argSls at ha
            cases er : argSl Γ1 r with
            | none => rw [er] at ha; cases ha
            | some s0 =>
              cases es : argSls Γ1 rs with
              | none => rw [er, es] at ha; cases ha
              | some ss =>
                rw [er, es] at ha
                cases ha
                cases vs with
                | nil => cases s0 <;> cases ss <;> exact hc.elim
                | cons v vs =>
                  cases r with
                  | d x => cases er; exact ih vs ss cs es hc z
                  | o x => cases er; exact ih vs ss cs es hc z
                  | b i =>
                    cases e : Γ1[i]? with
                    | none => simp [argSl, e] at er
                    | some t =>
                      cases e2 : t.mu with
                      | none => simp [argSl, e, e2] at er
                      | some m =>
                        have : s0 = Sl.cell m := by simp [argSl, e, e2] at er; exact er.symm
                        subst this
                        cases cs with
                        | nil => exact (show False from hc).elim
                        | cons c cs => simp [putB, e] at z
        exact this rs vs as cs ea a5 ep
      | some Γ2 =>
        rw [ep] at a7
        refine k v r H' F' Γ2 (s1.trans a1) (call_back E1 rr ea few a1 a2 a3 a4 a5 ep) (rc_rr E1 (fun i s m q1 q2 => ?_) a6) a7
        rcases few_at rr ea few a5 ep with ⟨_, e⟩ | ⟨j, s', l, p, c, ws, _, b1, b2, _, b4, _⟩
        · subst e; exact ⟨s, m, q1, q2⟩
        · subst b4
          by_cases hij : j = i
          · subst hij; exact ⟨s', l, b1, b2⟩
          · rw [get_set_ne hij] at q1; exact ⟨s, m, q1, q2⟩
    · obtain ⟨n, hx⟩ := a1
      have hf : ∀ a o, B.H0 a = some o → F' a = F1 a := fun a o h => by
        cases q : H1 a with
        | some u => exact a5 a u q
        | none => rw [E1.old q] at h; cases h
      have sH : Same H1 H' := fun a o h => a4 a o h fun j z => by
        obtain ⟨i, b1, _⟩ := pinC_some z
        exact noB_at n b1
      exact kx x cls dd H' F' Γ1 hx (s1.trans a2) (E1.grow sH a2 a3 (fun i s l q h1 h2 h3 => by
        obtain ⟨c1, ws, c2, _⟩ := E1.muH h1 h2 h3
        rw [a5 q _ c2]; exact c1) hf) a6
end
section
variable {X : Cx} {W : WX} {p pos : Pos} {x : Str} {e : Expr} {es : List Expr} {wa : WA} {k n : Nat} {fs : FS}
theorem de_call (tk : Takes X W) (c : Ca X.prog X.w X.K X.mg X.base x k fs) (hr : Room n X.A) (hk : k ≤ n) (ha : DA X W (e :: es) wa) (hg : Gl X x := by rfl) (hdb : (x == ("__debug__" : Str)) = false := by decide)
    (he : starEach (e :: es) X.env = (false, eval e X.env) :: starEach es X.env := by rfl) (hpl : (backTo pos (starEach es X.env)).any (·.1) = false := by rfl) : DE X W (.Call (.Name x p) (e :: es) [] pos) (wCall fs wa) := by
  obtain ⟨f, fd, ps, h1, h2, h3, h4⟩ := c.ex
  exact de_of (pe_callS (E := L2.WE W) h1 (hr.mono hk) hg h2 h3 h4 (passAt tk) ha.pa hdb he hpl) fun _ _ _ h => lift_call h
theorem de_call0 (tk : Takes X W) (c : Ca X.prog X.w X.K X.mg X.base x k fs) (hr : Room n X.A) (hk : k ≤ n) (hg : Gl X x := by rfl) (hdb : (x == ("__debug__" : Str)) = false := by decide) :
    DE X W (.Call (.Name x p) [] [] pos) (wCall fs wNil) := by
  obtain ⟨f, fd, ps, h1, h2, h3, h4⟩ := c.ex
  have h0 : PE X (.Call (.Name x p) [] [] pos) (tCallS (spOf X.K X.mg fs) (L2.WE W) tNil) := by
    refine ⟨fun pins s σ H Q I h => ?_⟩
    refine wpAny_Call_Name_kw (ld_glob I hg h2 ?_ hdb)
    exact PySem.W.callWith_K0 I.kIn h3 (run_fnS (us := []) h1 (hr.mono hk) h4 (passAt tk σ) I .nil h)
  refine de_of h0 fun σ H Kn h => ?_
  obtain ⟨B, F, Γ, Q, Xq, E, hw, k, kx⟩ := lift_call h
  exact k [] [] H F Γ (Same.id F) E rfl hw
end
end DL

namespace DL
open PySem L2
/-! ### targets -/
inductive Tg where
  | n (i : Nat) | t (is : List Nat)
def gsOf : List Nat → TGs
  | [] => gNil
  | i :: is => gCons (gName i) (gsOf is)
def gOf (K : PySem.W.Frag) : Tg → TG
  | .n i => gName i
  | .t is => fun v σ H Q => gTup K is.length (gsOf is) v σ H Q ∨ gUnl K is.length (gsOf is) v σ H Q
def Tg.slots : Tg → List Nat
  | .n i => [i]
  | .t is => is
def stOk (Γ : G) (i : Nat) : Prop := match Γ[i]? with
  | some (.cell _) => False
  | some _ => True
  | none => False
def stOks (Γ : G) : List Nat → Prop
  | [] => True
  | i :: is => stOk Γ i ∧ stOks Γ is
def setAll : G → List Nat → List PyData → G
  | Γ, i :: is, d :: ds => setAll (Γ.set i (.v d)) is ds
  | Γ, _, _ => Γ
def setV : St → List Nat → List V → St
  | σ, i :: is, v :: vs => setV (σ.set i (some v)) is vs
  | σ, _, _ => σ
def wG : Tg → PyData → G → (G → Prop) → Prop
  | .n i, d, Γ, Q => stOk Γ i ∧ Q (Γ.set i (.v d))
  | .t is, .tuple l, Γ, Q => l.length = is.length ∧ stOks Γ is ∧ Q (setAll Γ is l)
  | .t is, .list l, Γ, Q => l.length = is.length ∧ stOks Γ is ∧ Q (setAll Γ is l)
  | .t _, _, _, _ => False
section
variable {K : PySem.W.Frag} {mg : Str → Option Value} {W : WX} {B : Bs} {F F' H H' : Hp} {σ : St} {Γ : G}
def R.sl : R → Sl
  | .d x => .v x
  | .o l => .own l
  | .b _ => .no
theorem stOk_lt {i : Nat} (h : stOk Γ i) : i < Γ.length ∧ ∀ l, Γ[i]? ≠ some (Sl.cell l) := by
  unfold stOk at h
  cases e : Γ[i]? with
  | none => rw [e] at h; exact h.elim
  | some s =>
    rw [e] at h
    refine ⟨lt_of_get e, fun l z => ?_⟩
    cases z
    exact h.elim
theorem EnvR.store (E : EnvR K B F H σ Γ) {i : Nat} {v : V} {r : R} (h : stOk Γ i) (hr : RR K B F H σ Γ v r) (hb : ∀ j, r ≠ .b j) : EnvR K B F H (σ.set i (some v)) (Γ.set i r.sl) := by
  obtain ⟨hl, hc⟩ := stOk_lt h
  have hlσ : i < σ.length := by rw [E.len]; exact hl
  have sself : (σ.set i (some v))[i]? = some (some v) := by simp [hlσ]
  have sne : ∀ {j : Nat}, i ≠ j → (σ.set i (some v))[j]? = σ[j]? := fun {j} h => List.getElem?_set_ne h
  refine ⟨E.ex, by rw [List.length_set, List.length_set]; exact E.len, fun j d hj => ?_, fun j s m hj hm => ?_, fun j q hq => ?_, fun j m hj => ?_, fun j k s t m n q hj hk hm hn e1 e2 => ?_, E.keep, E.frz⟩
  · by_cases hij : i = j
    · subst hij
      rw [get_set_self hl] at hj
      cases r with
      | d x => cases hj; exact ⟨v, sself, hr⟩
      | o l => cases hj
      | b k => cases hj
    · rw [get_set_ne hij] at hj
      rw [sne hij]
      exact E.val j d hj
  · by_cases hij : i = j
    · subst hij
      rw [get_set_self hl] at hj
      cases r with
      | d x => cases hj; cases hm
      | o l =>
        cases hj
        cases hm
        obtain ⟨p, vs, e, h1, h2, h3, h4, _⟩ := hr
        exact ⟨p, vs, by rw [sself, e], h1, h2, h3, fun _ => h4⟩
      | b k => cases hj; cases hm
    · rw [get_set_ne hij] at hj
      rw [sne hij]
      exact E.mu j s m hj hm
  · obtain ⟨m, q1, q2⟩ := E.pin j q hq
    have hij : i ≠ j := fun z => by subst z; exact hc m q1
    exact ⟨m, by rw [get_set_ne hij]; exact q1, by rw [sne hij]; exact q2⟩
  · by_cases hij : i = j
    · subst hij
      rw [get_set_self hl] at hj
      cases r <;> cases hj
    · rw [get_set_ne hij] at hj; exact E.cel j m hj
  · have new : ∀ {j k : Nat} {s t : Sl} {m n : List PyData}, (Γ.set i r.sl)[j]? = some s → s.mu = some m → (σ.set i (some v))[j]? = some (some (V.ref q)) → i = j → i ≠ k → (Γ.set i r.sl)[k]? = some t → t.mu = some n → (σ.set i (some v))[k]? = some (some (V.ref q)) → False := fun {j' k' s' t' m' n'} ij im i1 iij iik ik iN i2 => by
      subst iij
      rw [get_set_self hl] at ij
      rw [get_set_ne iik] at ik
      rw [sne iik] at i2
      rw [sself] at i1
      clear hj hk
      cases r with
      | d x => cases ij; cases im
      | b x => cases ij; cases im
      | o l =>
        obtain ⟨p, vs, e, _, _, _, _, h5⟩ := hr
        rw [e] at i1
        cases i1
        exact h5 k' t' n' ik iN i2
    by_cases hij : i = j
    · by_cases hik : i = k
      · rw [← hij, ← hik]
      · exact (new hj hm e1 hij hik hk hn e2).elim
    · by_cases hik : i = k
      · exact (new hk hn e2 hik hij hj hm e1).elim
      · rw [get_set_ne hij] at hj
        rw [get_set_ne hik] at hk
        rw [sne hij] at e1
        rw [sne hik] at e2
        exact E.apart j k s t m n q hj hk hm hn e1 e2
theorem stOk_set {i j : Nat} {d : PyData} (h : stOk Γ j) : stOk (Γ.set i (.v d)) j := by
  by_cases hij : i = j
  · subst hij
    unfold stOk
    rw [get_set_self (stOk_lt h).1]
    trivial
  · unfold stOk
    rw [get_set_ne hij]
    exact h
theorem stOks_set {i : Nat} {d : PyData} : ∀ {is : List Nat}, stOks Γ is → stOks (Γ.set i (.v d)) is
  | [], _ => trivial
  | _ :: is, h => ⟨stOk_set h.1, stOks_set h.2⟩
theorem EnvR.stores : ∀ {is : List Nat} {ds : List PyData} {vs : List V} {σ : St} {Γ : G}, EnvR K B F H σ Γ → stOks Γ is → Reps K F vs ds → EnvR K B F H (setV σ is vs) (setAll Γ is ds)
  | [], ds, vs, σ, Γ, E, _, _ => by
    have e1 : setV σ [] vs = σ := rfl
    have e2 : setAll Γ [] ds = Γ := rfl
    rw [e1, e2]; exact E
  | i :: is, [], vs, σ, Γ, E, _, h => by rw [show vs = [] from h]; exact E
  | i :: is, d :: ds, vs, σ, Γ, E, hs, ⟨v, r, e, h1, h2⟩ => by
    subst e
    exact EnvR.stores (is := is) (E.store (r := .d d) hs.1 h1 fun _ z => nomatch z) (stOks_set hs.2) h2
theorem gs_go : ∀ {is : List Nat} {vs : List V} {σ : St} {Kn : St → Hp → Prop}, vs.length = is.length → Kn (setV σ is vs) H → gsOf is vs σ H Kn
  | [], vs, σ, Kn, hl, h => by
    cases vs with
    | nil => exact ⟨rfl, h⟩
    | cons v vs => cases hl
  | i :: is, vs, σ, Kn, hl, h => by
    cases vs with
    | nil => cases hl
    | cons v vs => exact ⟨v, vs, rfl, gs_go (by simpa using hl) h⟩
/-- a target takes a value -/
theorem g_go (E : EnvR K B F H σ Γ) {t : Tg} {v : V} {d : PyData} {Q : G → Prop} {Kn : St → Hp → Prop} (h : Rep K F v d) (hw : wG t d Γ Q)
    (k : ∀ σ' Γ', EnvR K B F H σ' Γ' → (∀ vs, (∀ i ∈ t.slots, i ∈ vs) → wipe σ' vs = wipe σ vs) → Q Γ' → Kn σ' H) : gOf K t v σ H Kn := by
  have ws : ∀ (i : Nat) (x : Option V) (vs : List Nat) (σ : St), i ∈ vs → wipe (σ.set i x) vs = wipe σ vs := by
    intro i x vs
    induction vs with
    | nil => intro σ h; cases h
    | cons j vs ih =>
      intro σ h
      show (wipe (σ.set i x) vs).set j none = (wipe σ vs).set j none
      by_cases e : i = j
      · subst e
        by_cases hm : i ∈ vs
        · rw [ih σ hm]
        · have : ∀ (vs : List Nat) (σ : St), i ∉ vs → wipe (σ.set i x) vs = (wipe σ vs).set i x := by
            intro vs
            induction vs with
            | nil => intro σ _; rfl
            | cons k vs ih2 =>
              intro σ h
              show (wipe (σ.set i x) vs).set k none = ((wipe σ vs).set k none).set i x
              rw [ih2 σ (fun z => h (List.mem_cons_of_mem _ z)), List.set_comm _ _ (fun z => h (by rw [z]; exact List.mem_cons_self))]
          rw [this vs σ hm, List.set_set]
      · have hm : i ∈ vs := by
          rcases List.mem_cons.mp h with z | z
          · exact absurd z e
          · exact z
        rw [ih σ hm]
  cases t with
  | n i =>
    refine k _ _ (E.store (r := .d d) hw.1 h fun _ z => nomatch z) (fun vs hv => ws i _ vs σ (hv i (List.mem_singleton.mpr rfl))) hw.2
  | t is =>
    cases d with
    | tuple l =>
      obtain ⟨h1, h2, h3⟩ := hw
      obtain ⟨a, vs, e, hq, hr⟩ := h
      have hl : vs.length = is.length := by rw [hr.len, h1]
      refine .inl ⟨a, vs, e, sqt_mono E.ex hq, hl, gs_go hl (k _ _ (E.stores h2 hr) (fun us hv => ?_) h3)⟩
      have : ∀ (is : List Nat) (vs : List V) (σ : St), (∀ i ∈ is, i ∈ us) → wipe (setV σ is vs) us = wipe σ us := by
        intro is
        induction is with
        | nil => intro vs σ _; cases vs <;> rfl
        | cons i is ih =>
          intro vs σ h
          cases vs with
          | nil => rfl
          | cons v vs =>
            show wipe (setV (σ.set i (some v)) is vs) us = _
            rw [ih vs _ (fun j hj => h j (List.mem_cons_of_mem _ hj)), ws i _ us σ (h i List.mem_cons_self)]
      exact this is vs σ hv
    | list l =>
      obtain ⟨h1, h2, h3⟩ := hw
      obtain ⟨a, vs, e, hq, hr⟩ := h
      have hl : vs.length = is.length := by rw [hr.len, h1]
      refine .inr ⟨a, vs, e, sql_mono E.ex hq, hl, gs_go hl (k _ _ (E.stores h2 hr) (fun us hv => ?_) h3)⟩
      have : ∀ (is : List Nat) (vs : List V) (σ : St), (∀ i ∈ is, i ∈ us) → wipe (setV σ is vs) us = wipe σ us := by
        intro is
        induction is with
        | nil => intro vs σ _; cases vs <;> rfl
        | cons i is ih =>
          intro vs σ h
          cases vs with
          | nil => rfl
          | cons v vs =>
            show wipe (setV (σ.set i (some v)) is vs) us = _
            rw [ih vs _ (fun j hj => h j (List.mem_cons_of_mem _ hj)), ws i _ us σ (h i List.mem_cons_self)]
      exact this is vs σ hv
    | _ => exact (show False from hw).elim
end
/-! ### statements -/
structure Pst where
  nx : G → Prop
  rt : R → G → Prop
  bk : G → Prop
  ct : G → Prop
  xc : XQ
abbrev WS := G → Pst → Prop
structure SOk (K : PySem.W.Frag) (mg : Str → Option Value) (B : Bs) (F : Hp) (W : WX) (P : Pst) (D : Ends) : Prop where
  nx : ∀ σ' H' F' Γ', Same F F' → EnvR K B F' H' σ' Γ' → P.nx Γ' → D.nx σ' H'
  rt : ∀ v r σ' H' F' Γ', Same F F' → EnvR K B F' H' σ' Γ' → RR K B F' H' σ' Γ' v r → P.rt r Γ' → D.rt v H'
  bk : ∀ σ' H' F' Γ', Same F F' → EnvR K B F' H' σ' Γ' → P.bk Γ' → D.bk σ' H'
  ct : ∀ σ' H' F' Γ', Same F F' → EnvR K B F' H' σ' Γ' → P.ct Γ' → D.ct σ' H'
  xc : ∀ σ', XOk K mg B F W σ' P.xc
theorem SOk.mono {K : PySem.W.Frag} {mg : Str → Option Value} {B : Bs} {F F' : Hp} {W : WX} {P : Pst} {D : Ends} (h : SOk K mg B F W P D) (e : Same F F') : SOk K mg B F' W P D :=
  ⟨fun _ _ _ _ s => h.nx _ _ _ _ (e.trans s), fun _ _ _ _ _ _ s => h.rt _ _ _ _ _ _ (e.trans s), fun _ _ _ _ s => h.bk _ _ _ _ (e.trans s), fun _ _ _ _ s => h.ct _ _ _ _ (e.trans s), fun σ' => (h.xc σ').mono e⟩
def liftS (K : PySem.W.Frag) (mg : Str → Option Value) (W : WX) (w : WS) : TS := fun D σ H => ∃ B F Γ P, EnvR K B F H σ Γ ∧ w Γ P ∧ SOk K mg B F W P D
structure DS (X : Cx) (W : WX) (st : Stmt) (w : WS) : Prop where
  ps : PS X st (liftS X.K X.mg W w)
structure DSs (X : Cx) (W : WX) (st : List Stmt) (w : WS) : Prop where
  pss : PSs X st (liftS X.K X.mg W w)
theorem _root_.L2.PS.imp {X : Cx} {st : Stmt} {t t' : TS} (h : PS X st t) (k : ∀ D σ H, t' D σ H → t D σ H) : PS X st t' := ⟨fun pins s σ H D I q => h.run pins s σ H D I (k D σ H q)⟩
theorem _root_.L2.PSs.imp {X : Cx} {st : List Stmt} {t t' : TS} (h : PSs X st t) (k : ∀ D σ H, t' D σ H → t D σ H) : PSs X st t' := ⟨fun pins s σ H D I q => h.run pins s σ H D I (k D σ H q)⟩
def wNext : WS := fun Γ P => P.nx Γ
def wSeq (a b : WS) : WS := fun Γ P => a Γ { P with nx := fun Γ' => b Γ' P }
def wBreak : WS := fun Γ P => P.bk Γ
def wCont : WS := fun Γ P => P.ct Γ
def wExpr (w : WE) : WS := fun Γ P => w Γ (fun _ Γ' => P.nx Γ') P.xc
def wRet (w : WE) : WS := fun Γ P => w Γ P.rt P.xc
def wRetN : WS := fun Γ P => P.rt (.d .none) Γ
def wIfS (t : WT) (a b : WS) : WS := fun Γ P => t Γ (fun c Γ1 => if c = true then a Γ1 P else b Γ1 P) P.xc
def wNever : WS := fun _ _ => False
def wSet (w : WE) (i : Nat) : WS := fun Γ P => w Γ (fun r Γ1 => stOk Γ1 i ∧ match r with
  | .d x => P.nx (Γ1.set i (.v x))
  | .o l => P.nx (Γ1.set i (.own l))
  | .b _ => False) P.xc
def wAsg (w : WE) (t : Tg) : WS := fun Γ P => w Γ (fun r Γ1 => match r with
  | .d x => wG t x Γ1 P.nx
  | _ => False) P.xc
def wPar (i j : Nat) (wa : WA) : WS := fun Γ P => wa Γ (fun rs Γ1 => match rdF rs with
  | some [x, y] => stOk Γ1 i ∧ stOk Γ1 j ∧ P.nx ((Γ1.set i (.v x)).set j (.v y))
  | _ => False) P.xc
section
variable {X : Cx} {W : WX} {pos : Pos} {e : Expr} {st : Stmt} {rest a b : List Stmt} {w : WE} {wa : WA} {t : WT} {u u' : WS}
theorem ds_of {t : TS} {w : WS} (h : PS X st t) (k : ∀ D σ H, liftS X.K X.mg W w D σ H → t D σ H) : DS X W st w := ⟨h.imp k⟩
theorem dss_nil : DSs X W [] wNext := ⟨pss_nil.imp fun D σ H ⟨B, F, Γ, P, E, hw, k⟩ => k.nx σ H F Γ (Same.id F) E hw⟩
theorem dss_cons (h1 : DS X W st u) (h2 : DSs X W rest u') : DSs X W (st :: rest) (wSeq u u') := ⟨(pss_cons h1.ps h2.pss).imp fun D σ H ⟨B, F, Γ, P, E, hw, k⟩ =>
  ⟨B, F, Γ, { P with nx := fun Γ' => u' Γ' P }, E, hw, fun σ' H' F' Γ' s E' q => ⟨B, F', Γ', P, E', q, k.mono s⟩, k.rt, k.bk, k.ct, k.xc⟩⟩
theorem dss_one (h1 : DS X W st u) : DSs X W [st] u := ⟨pss_one h1.ps⟩
theorem ds_pass : DS X W (.Pass pos) wNext := ds_of ps_pass fun D σ H ⟨B, F, Γ, P, E, hw, k⟩ => k.nx σ H F Γ (Same.id F) E hw
theorem ds_break : DS X W (.Break pos) wBreak := ds_of ps_break fun D σ H ⟨B, F, Γ, P, E, hw, k⟩ => k.bk σ H F Γ (Same.id F) E hw
theorem ds_continue : DS X W (.Continue pos) wCont := ds_of ps_continue fun D σ H ⟨B, F, Γ, P, E, hw, k⟩ => k.ct σ H F Γ (Same.id F) E hw
theorem ds_expr (he : DE X W e w) (hs : swapsWith e none pos.line X.env = pure false := by rfl) : DS X W (.Expr e pos) (wExpr w) := ds_of (ps_expr he.pe hs) fun D σ H ⟨B, F, Γ, P, E, hw, k⟩ =>
  ⟨B, F, Γ, _, P.xc, E, hw, fun v r H' F' Γ' s E' _ q => k.nx σ H' F' Γ' s E' q, k.xc σ⟩
theorem ds_ret (he : DE X W e w) : DS X W (.Return (some e) pos) (wRet w) := ds_of (ps_ret he.pe) fun D σ H ⟨B, F, Γ, P, E, hw, k⟩ =>
  ⟨B, F, Γ, _, P.xc, E, hw, fun v r H' F' Γ' s E' rr q => k.rt v r σ H' F' Γ' s E' rr q, k.xc σ⟩
theorem ds_retN : DS X W (.Return none pos) wRetN := ds_of ps_retN fun D σ H ⟨B, F, Γ, P, E, hw, k⟩ => k.rt .non (.d .none) σ H F Γ (Same.id F) E rfl hw
theorem ds_if {c : Expr} (hc : DT X W c t) (ha : DSs X W a u) (hb : DSs X W b u') : DS X W (.If c a b pos) (wIfS t u u') := ds_of (ps_if hc.pt ha.pss hb.pss) fun D σ H ⟨B, F, Γ, P, E, hw, k⟩ =>
  ⟨B, F, Γ, _, P.xc, E, hw, fun d H' F' Γ' s E' q => by
    cases d with
    | true => exact ⟨B, F', Γ', P, E', q, k.mono s⟩
    | false => exact ⟨B, F', Γ', P, E', q, k.mono s⟩, k.xc σ⟩
theorem ds_never : DS X W st wNever := ds_of (t := tNever) ps_never fun D σ H ⟨_, _, _, _, _, hw, _⟩ => hw
theorem dss_never : DSs X W rest wNever := ⟨pss_never.imp fun D σ H ⟨_, _, _, _, _, hw, _⟩ => hw⟩
theorem set_go {K : PySem.W.Frag} {mg : Str → Option Value} {D : Ends} {σ : St} {H : Hp} {i : Nat} (h : liftS K mg W (wSet w i) D σ H) : liftE K mg W w σ H fun x H1 => gName i x σ H1 D.nx := by
  obtain ⟨B, F, Γ, P, E, hw, k⟩ := h
  refine ⟨B, F, Γ, _, P.xc, E, hw, fun v r H' F' Γ' s E' rr q => ?_, k.xc σ⟩
  obtain ⟨q1, q2⟩ := q
  cases r with
  | d x => exact k.nx _ H' F' _ s (E'.store q1 rr fun _ z => nomatch z) q2
  | o l => exact k.nx _ H' F' _ s (E'.store q1 rr fun _ z => nomatch z) q2
  | b j => exact q2.elim
theorem ds_set {i : Nat} {x : Str} {pos' : Pos} (he : DE X W e w) (hN : X.N.Nodup) (hi : X.N[i]? = some x := by rfl) (hx : Loc X.env.scope x := by first | exact .inl rfl | exact .inr rfl) (hs : swapsWith e (some (.Name x pos')) pos.line X.env = pure false := by rfl)
    (hf : X.fn x = true ∨ X.env.scope.names.lookup x = some .local := by first | exact .inl rfl | exact .inr rfl | assumption) : DS X W (.Assign [.Name x pos'] e pos) (wSet w i) :=
  ds_of (ps_set hN hi hx he.pe hs hf) fun D σ H h => set_go h
theorem ds_asg {tg : Expr} {tt : Tg} (he : DE X W e w) (hg : PG X tg (gOf X.K tt)) (hs : swapsWithSole [tg] e pos.line X.env = pure false := by rfl) (hw : swappedStores [tg] e X.env = pure none := by rfl)
    (h1 : (assignEach [tg] X.env).map (·.2) = [assign tg X.env] := by rfl) : DS X W (.Assign [tg] e pos) (wAsg w tt) :=
  ds_of (ps_asg he.pe hg hs hw h1) fun D σ H ⟨B, F, Γ, P, E, hw, k⟩ => ⟨B, F, Γ, _, P.xc, E, hw, fun v r H' F' Γ' s E' rr q => by
    cases r with
    | d x => exact g_go E' rr q fun σ' Γ'' E'' _ q => k.nx σ' H' F' Γ'' s E'' q
    | o l => exact (show False from q).elim
    | b j => exact (show False from q).elim, k.xc σ⟩
theorem ds_par {i j : Nat} {x y : Str} {a b : Expr} {px py pt : Pos} {kt k2 pt2} (ha : DA X W [a, b] wa) (hc : X.calm = true) (hN : X.N.Nodup) (hi : X.N[i]? = some x := by rfl) (hj : X.N[j]? = some y := by rfl) (hij : i ≠ j := by decide)
    (hx : X.env.scope.names.lookup x = some .local := by rfl) (hy : X.env.scope.names.lookup y = some .local := by rfl)
    (hw : swappedStores [.Tuple [.Name x px, .Name y py] kt pt] (.Tuple [a, b] k2 pt2) X.env = pure (some [x, y]) := by rfl)
    (hs : swapsWithSole [.Tuple [.Name x px, .Name y py] kt pt] (.Tuple [a, b] k2 pt2) pos.line X.env = pure false := by rfl) :
    DS X W (.Assign [.Tuple [.Name x px, .Name y py] kt pt] (.Tuple [a, b] k2 pt2) pos) (wPar i j wa) :=
  ds_of (ps_par hc hN hi hj hij hx hy ha.pa hw hs) fun D σ H ⟨B, F, Γ, P, E, hw, k⟩ => ⟨B, F, Γ, _, P.xc, E, hw, fun vs rs H' F' Γ' s E' rr q => by
    have q' : match rdF rs with
      | some [x, y] => stOk Γ' i ∧ stOk Γ' j ∧ P.nx ((Γ'.set i (.v x)).set j (.v y))
      | _ => False := q
    cases ex : rdF rs with
    | none => rw [ex] at q'; exact q'.elim
    | some xs =>
      rw [ex] at q'
      match xs, ex, q' with
      | [x, y], ex, ⟨q1, q2, q3⟩ =>
        obtain ⟨v, r1, e1, h1, w', r2, e2, h2, e3⟩ := rr.reps ex
        subst e3; subst e2; subst e1
        exact ⟨v, w', rfl, k.nx _ H' F' _ s ((E'.store (r := .d x) q1 h1 fun _ z => nomatch z).store (r := .d y) (stOk_set q2) h2 fun _ z => nomatch z) q3⟩, k.xc σ⟩
end
section
variable {X : Cx} {W : WX} {pos : Pos}
theorem pg_n {i : Nat} {x : Str} (hN : X.N.Nodup) (hi : X.N[i]? = some x := by rfl) (hx : Loc X.env.scope x := by first | exact .inl rfl | exact .inr rfl) (hf : X.fn x = true ∨ X.env.scope.names.lookup x = some .local := by first | exact .inl rfl | exact .inr rfl | assumption) : PG X (.Name x pos) (gOf X.K (.n i)) :=
  pg_name hN hi hx hf
theorem pgs_0 : PGs X [] (gsOf []) := pgs_nil
theorem pgs_1 {i : Nat} {x : Str} {is : List Nat} {es : List Expr} (hN : X.N.Nodup) (h2 : PGs X es (gsOf is)) (hi : X.N[i]? = some x := by rfl) (hx : Loc X.env.scope x := by first | exact .inl rfl | exact .inr rfl) (hf : X.fn x = true ∨ X.env.scope.names.lookup x = some .local := by first | exact .inl rfl | exact .inr rfl | assumption)
    (hs : (assignEach (.Name x pos :: es) X.env).map (·.2) = assign (.Name x pos) X.env :: (assignEach es X.env).map (·.2) := by rfl) : PGs X (.Name x pos :: es) (gsOf (i :: is)) := pgs_cons (pg_name hN hi hx hf) h2 hs
theorem pg_t {es : List Expr} {k : Nat} {is : List Nat} (hc : X.calm = true) (h : PGs X es (gsOf is)) (hn : (assignEach es X.env).length = is.length := by rfl) (hst : (assignEach es X.env).findIdx? (·.1) = none := by rfl) : PG X (.Tuple es k pos) (gOf X.K (.t is)) :=
  ⟨fun pins s σ H v u Q I r hw => hw.elim (fun q => (pg_tup hc h hn hst).run pins s σ H v u Q I r q) fun q => (pg_unl hc h hn hst).run pins s σ H v u Q I r q⟩
end
end DL

namespace DL
open PySem L2
/-! ### the base set anew -/
section
variable {K : PySem.W.Frag} {mg : Str → Option Value} {W : WX} {B B' : Bs} {F F' F2 H H' H2 : Hp} {σ σ' : St} {Γ Γ' : G}
def OwnAt (σ : St) (Γ : G) (a : Addr) : Prop := ∃ (i : Nat) (l : List PyData), Γ[i]? = some (Sl.own l) ∧ σ[i]? = some (some (V.ref a))
def MutAt (σ : St) (Γ : G) (a : Addr) : Prop := ∃ (i : Nat) (s : Sl) (l : List PyData), Γ[i]? = some s ∧ s.mu = some l ∧ σ[i]? = some (some (V.ref a))
open Classical in
noncomputable def reB (B : Bs) (F H : Hp) (σ : St) (Γ : G) : Bs := ⟨fun a => if OwnAt σ Γ a then none else H a, F, B.pin⟩
open Classical in
theorem reB_own (B : Bs) (F H : Hp) {σ : St} {Γ : G} {a : Addr} (h : OwnAt σ Γ a) : (reB B F H σ Γ).H0 a = none := by
  show (if _ then _ else _) = _
  rw [if_pos h]
open Classical in
theorem reB_not (B : Bs) (F H : Hp) {σ : St} {Γ : G} {a : Addr} (h : ¬ OwnAt σ Γ a) : (reB B F H σ Γ).H0 a = H a := by
  show (if _ then _ else _) = _
  rw [if_neg h]
theorem reB_some {B : Bs} {F H : Hp} {σ : St} {Γ : G} {a : Addr} {o : HO} (h : (reB B F H σ Γ).H0 a = some o) : H a = some o ∧ ¬ OwnAt σ Γ a := by
  by_cases q : OwnAt σ Γ a
  · rw [reB_own B F H q] at h; cases h
  · rw [reB_not B F H q] at h; exact ⟨h, q⟩
theorem EnvR.rebase (E : EnvR K B F H σ Γ) : EnvR K (reB B F H σ Γ) F H σ Γ where
  ex := E.ex
  len := E.len
  val := E.val
  mu := fun i s l h h' => by
    obtain ⟨p, vs, h1, h2, h3, h4, h5⟩ := E.mu i s l h h'
    exact ⟨p, vs, h1, h2, h3, h4, fun e => reB_own B F H ⟨i, l, by rw [← e]; exact h, h1⟩⟩
  pin := E.pin
  cel := E.cel
  apart := E.apart
  keep := fun a o h _ => (reB_some h).1
  frz := fun _ _ _ => rfl
theorem EnvR.unbase (E : EnvR K B F H σ Γ) (E' : EnvR K (reB B F H σ Γ) F' H' σ' Γ') : EnvR K B F' H' σ' Γ' where
  ex := E'.ex
  len := E'.len
  val := E'.val
  mu := fun i s l h h' => by
    obtain ⟨p, vs, h1, h2, h3, h4, h5⟩ := E'.mu i s l h h'
    refine ⟨p, vs, h1, h2, h3, h4, fun e => ?_⟩
    have q := h5 e
    by_cases ho : OwnAt σ Γ p
    · obtain ⟨j, m, a1, a2⟩ := ho
      obtain ⟨p', _, b1, _, _, _, b5⟩ := E.mu j _ m a1 rfl
      rw [a2] at b1
      cases b1
      exact b5 rfl
    · rw [reB_not B F H ho] at q
      exact E.old q
  pin := E'.pin
  cel := E'.cel
  apart := E'.apart
  keep := fun a o h hp => by
    have h1 := E.keep a o h hp
    refine E'.keep a o ?_ hp
    rw [reB_not]
    · exact h1
    · rintro ⟨j, m, a1, a2⟩
      obtain ⟨p', _, b1, _, _, _, b5⟩ := E.mu j _ m a1 rfl
      rw [a2] at b1
      cases b1
      rw [b5 rfl] at h; cases h
  frz := fun a o h => by
    rw [← E.frz a o h]
    have no : ¬ OwnAt σ Γ a := by
      rintro ⟨j, m, a1, a2⟩
      obtain ⟨p', _, b1, _, _, _, b5⟩ := E.mu j _ m a1 rfl
      rw [a2] at b1
      cases b1
      rw [b5 rfl] at h; cases h
    have : ∃ u, H a = some u := by
      by_cases hp : ∃ i, B.pin i = some a
      · obtain ⟨i, hi⟩ := hp
        obtain ⟨l', h1, h2⟩ := E.pin i a hi
        obtain ⟨_, ws, h3, _⟩ := E.muH h1 rfl h2
        exact ⟨_, h3⟩
      · exact ⟨o, E.keep a o h fun i hi => hp ⟨i, hi⟩⟩
    obtain ⟨u, hu⟩ := this
    exact E'.frz a u (by rw [reB_not B F H no]; exact hu)
/-- what is nobody's slot stands through it all -/
theorem EnvR.stay (E : EnvR K B F H σ Γ) (E' : EnvR K (reB B F H σ Γ) F' H' σ' Γ') {a : Addr} {o : HO} (h : H a = some o) (hm : ¬ MutAt σ Γ a) : H' a = some o ∧ F' a = F a ∧ ¬ MutAt σ' Γ' a := by
  have no : ¬ OwnAt σ Γ a := fun ⟨i, l, a1, a2⟩ => hm ⟨i, _, l, a1, rfl, a2⟩
  have hH : (reB B F H σ Γ).H0 a = some o := by rw [reB_not B F H no]; exact h
  have np : ∀ i, B.pin i ≠ some a := fun i hi => by
    obtain ⟨l, a1, a2⟩ := E.pin i a hi
    exact hm ⟨i, _, l, a1, rfl, a2⟩
  refine ⟨E'.keep a o hH np, E'.frz a o hH, fun ⟨i, s, l, a1, a2, a3⟩ => ?_⟩
  obtain ⟨p, vs, h1, h2, h3, h4, h5⟩ := E'.mu i s l a1 a2
  rw [a3] at h1
  cases h1
  cases s with
  | no => cases a2
  | v _ => cases a2
  | own m => rw [h5 (by cases a2; rfl)] at hH; cases hH
  | cell m =>
    obtain ⟨q, hq⟩ := E'.cel i m a1
    obtain ⟨_, _, c2⟩ := E'.pin i q hq
    rw [a3] at c2
    cases c2
    exact np i hq
/-- a thing beside is written -/
theorem EnvR.poke (E : EnvR K B F H σ Γ) {a : Addr} {o : HO} (h0 : B.H0 a = none) (hF : F a = none) (hm : ¬ MutAt σ Γ a) : EnvR K B F (upd H a o) σ Γ where
  ex := fun b u q => by rw [upd_ne (ne_of_none q hF)]; exact E.ex b u q
  len := E.len
  val := E.val
  mu := fun i s l h h' => by
    obtain ⟨p, vs, h1, h2, h3, h4, h5⟩ := E.mu i s l h h'
    have : p ≠ a := fun z => hm ⟨i, s, l, h, h', by rw [h1, z]⟩
    exact ⟨p, vs, h1, h2, by rw [upd_ne this]; exact h3, h4, h5⟩
  pin := E.pin
  cel := E.cel
  apart := E.apart
  keep := fun b u h hp => by rw [upd_ne (ne_of_none h h0)]; exact E.keep b u h hp
  frz := E.frz
/-- a slot is set to what is told of it -/
theorem EnvR.putSl (E : EnvR K B F H σ Γ) {i : Nat} {x : Option V} {s : Sl} (hp : B.pin i = none) (hs : s = Sl.no ∨ ∃ d v, s = Sl.v d ∧ x = some v ∧ Rep K F v d) : EnvR K B F H (σ.set i x) (Γ.set i s) := by
  by_cases hl : i < Γ.length
  · have hlσ : i < σ.length := by rw [E.len]; exact hl
    have sself : (σ.set i x)[i]? = some x := by simp [hlσ]
    have sne : ∀ {j : Nat}, i ≠ j → (σ.set i x)[j]? = σ[j]? := fun {j} h => List.getElem?_set_ne h
    have nm : ∀ {m : List PyData}, s.mu ≠ some m := fun {m} z => by
      rcases hs with e | ⟨d, v, e, _⟩ <;> rw [e] at z <;> cases z
    have nc : ∀ {m : List PyData}, s ≠ Sl.cell m := fun {m} z => nm (m := m) (by rw [z]; rfl)
    refine ⟨E.ex, by rw [List.length_set, List.length_set]; exact E.len, fun j d hj => ?_, fun j t m hj hm => ?_, fun j q hq => ?_, fun j m hj => ?_, fun j k t u m n q hj hk hm hn e1 e2 => ?_, E.keep, E.frz⟩
    · by_cases hij : i = j
      · subst hij
        rw [get_set_self hl] at hj
        rcases hs with e | ⟨d', v, e, ex, hr⟩
        · rw [e] at hj; cases hj
        · rw [e] at hj; cases hj; exact ⟨v, by rw [sself, ex], hr⟩
      · rw [get_set_ne hij] at hj; rw [sne hij]; exact E.val j d hj
    · by_cases hij : i = j
      · subst hij
        rw [get_set_self hl] at hj
        cases hj
        exact (nm hm).elim
      · rw [get_set_ne hij] at hj; rw [sne hij]; exact E.mu j t m hj hm
    · have hij : i ≠ j := fun z => by subst z; rw [hp] at hq; cases hq
      obtain ⟨m, q1, q2⟩ := E.pin j q hq
      exact ⟨m, by rw [get_set_ne hij]; exact q1, by rw [sne hij]; exact q2⟩
    · by_cases hij : i = j
      · subst hij
        rw [get_set_self hl] at hj
        exact (nc (Option.some.inj hj)).elim
      · rw [get_set_ne hij] at hj; exact E.cel j m hj
    · have nj : i ≠ j := fun z => by subst z; rw [get_set_self hl] at hj; cases hj; exact nm hm
      have nk : i ≠ k := fun z => by subst z; rw [get_set_self hl] at hk; cases hk; exact nm hn
      rw [get_set_ne nj] at hj
      rw [get_set_ne nk] at hk
      rw [sne nj] at e1
      rw [sne nk] at e2
      exact E.apart j k t u m n q hj hk hm hn e1 e2
  · have hlσ : ¬ i < σ.length := by rw [E.len]; exact hl
    have e1 : σ.set i x = σ := by rw [List.set_eq_of_length_le (Nat.le_of_not_lt hlσ)]
    have e2 : Γ.set i s = Γ := by rw [List.set_eq_of_length_le (Nat.le_of_not_lt hl)]
    rw [e1, e2]
    exact E
end
/-! ### walks -/
structure Walks (K : PySem.W.Frag) (F : Hp) (J : It) (ds : List PyData) : Prop where
  go : ∀ (i : Nat) (H : Hp), Same F H → i < ds.length → J.go i H
  stop : ∀ H : Hp, Same F H → J.stop ds.length H
  yld : ∀ (i : Nat) (H : Hp) (x : V) (H' : Hp), Same F H → i < ds.length → J.yld i H x H' → Same H H' ∧ ∃ d : PyData, ds[i]? = some d ∧ ∀ (B : Bs) (F1 : Hp) (σ : St) (Γ : G), Same F F1 → EnvR K B F1 H σ Γ → ∃ F2, Same F1 F2 ∧ (∀ a o, H a = some o → F2 a = F1 a) ∧ EnvR K B F2 H' σ Γ ∧ Rep K F2 x d
abbrev WI := G → (List PyData → G → Prop) → XQ → Prop
def liftI (K : PySem.W.Frag) (mg : Str → Option Value) (W : WX) (wi : WI) : TI := fun σ H Rr => ∃ B F Γ Q X, EnvR K B F H σ Γ ∧ wi Γ Q X ∧
  (∀ J ds H' F' Γ', Same F F' → EnvR K B F' H' σ Γ' → Walks K F' J ds → Q ds Γ' → Rr J H') ∧ XOk K mg B F W σ X
structure DI (X : Cx) (W : WX) (tg iter : Expr) (wi : WI) : Prop where
  pi : PI X tg iter (liftI X.K X.mg W wi)
theorem _root_.L2.PI.imp {X : Cx} {tg iter : Expr} {t t' : TI} (h : PI X tg iter t) (k : ∀ σ H Q, t' σ H Q → t σ H Q) : PI X tg iter t' := ⟨fun pins s σ H Q I q => h.run pins s σ H Q I (k σ H Q q)⟩
def signs (x : Str) : List PyData := x.cps.toList.map fun c => PyData.str ⟨#[c]⟩
def items : PyData → Option (List PyData)
  | .list l => some l
  | .tuple l => some l
  | .str x => some (signs x)
  | _ => none
def wIt (w : WE) : WI := fun Γ Q X => w Γ (fun r Γ1 => match rdf r with
  | some d => match items d with
    | some l => Q l Γ1
    | none => False
  | none => False) X
where rdf : R → Option PyData
  | .d x => some x
  | .o l => some (.list l)
  | .b _ => none
def rangeL (lo : Int) (n : Nat) : List PyData := (List.range n).map fun (k : Nat) => PyData.int (lo + (k : Int))
def inR (i : Int) : Prop := -(2 ^ 62) ≤ i ∧ i < 2 ^ 62
def wRng1 (wa : WA) : WI := fun Γ Q X => wa Γ (fun rs Γ1 => ∃ n, rs = [.d (.int n)] ∧ inR n ∧ Q (rangeL 0 n.toNat) Γ1) X
def wRng2 (wa : WA) : WI := fun Γ Q X => wa Γ (fun rs Γ1 => ∃ a b, rs = [.d (.int a), .d (.int b)] ∧ inR a ∧ inR b ∧ Q (rangeL a (b - a).toNat) Γ1) X
section
variable {K : PySem.W.Frag} {F H : Hp}
theorem walks_list {a : Addr} {vs : List V} {l : List PyData} (h : SqL K F a vs) (r : Reps K F vs l) : Walks K F (Itl K a) l where
  go := fun i H s hi => by
    obtain ⟨v, h1, _⟩ := r.get (List.getElem?_eq_getElem hi)
    exact ⟨vs, v, sql_mono s h, h1⟩
  stop := fun H s => ⟨vs, sql_mono s h, by rw [r.len]; exact Nat.le_refl _⟩
  yld := fun i H x H' s hi ⟨e, y⟩ => by
    subst e
    obtain ⟨v, h1, h2⟩ := r.get (List.getElem?_eq_getElem hi)
    have hx := y vs (sql_mono s h)
    rw [h1] at hx
    cases hx
    exact ⟨Same.id _, _, List.getElem?_eq_getElem hi, fun B F1 σ Γ s1 E1 => ⟨F1, Same.id F1, fun _ _ _ => rfl, E1, Rep.mono s1 _ _ h2⟩⟩
theorem walks_tup {a : Addr} {vs : List V} {l : List PyData} (h : SqT K F a vs) (r : Reps K F vs l) : Walks K F (Itt K a) l where
  go := fun i H s hi => by
    obtain ⟨v, h1, _⟩ := r.get (List.getElem?_eq_getElem hi)
    exact ⟨vs, v, sqt_mono s h, h1⟩
  stop := fun H s => ⟨vs, sqt_mono s h, by rw [r.len]; exact Nat.le_refl _⟩
  yld := fun i H x H' s hi ⟨e, y⟩ => by
    subst e
    obtain ⟨v, h1, h2⟩ := r.get (List.getElem?_eq_getElem hi)
    have hx := y vs (sqt_mono s h)
    rw [h1] at hx
    cases hx
    exact ⟨Same.id _, _, List.getElem?_eq_getElem hi, fun B F1 σ Γ s1 E1 => ⟨F1, Same.id F1, fun _ _ _ => rfl, E1, Rep.mono s1 _ _ h2⟩⟩
theorem walks_str {x : Str} : Walks K F (Its x) (signs x) where
  go := fun i H s hi => by
    have : (signs x).length = x.cps.size := by unfold signs; rw [List.length_map, Array.length_toList]
    show i < x.cps.size
    omega
  stop := fun H s => by
    have : (signs x).length = x.cps.size := by unfold signs; rw [List.length_map, Array.length_toList]
    show x.cps.size ≤ (signs x).length
    omega
  yld := fun i H v H' s hi ⟨e, c, h1, h2⟩ => by
    subst e
    refine ⟨Same.id _, .str ⟨#[c]⟩, ?_, fun B F1 σ Γ s1 E1 => ⟨F1, Same.id F1, fun _ _ _ => rfl, E1, h2⟩⟩
    unfold signs
    rw [List.getElem?_map, Array.getElem?_toList, h1]
    rfl
theorem walks_range {lo : Int} {n : Nat} : Walks K F (Itr lo n) (rangeL lo n) where
  go := fun i H s hi => by
    have : (rangeL lo n).length = n := by unfold rangeL; rw [List.length_map, List.length_range]
    show i < n
    omega
  stop := fun H s => by
    have : (rangeL lo n).length = n := by unfold rangeL; rw [List.length_map, List.length_range]
    show n ≤ (rangeL lo n).length
    omega
  yld := fun i H v H' s hi ⟨e, h1⟩ => by
    subst e
    have hn : i < n := by
      have : (rangeL lo n).length = n := by unfold rangeL; rw [List.length_map, List.length_range]
      omega
    refine ⟨Same.id _, .int (lo + i), ?_, fun B F1 σ Γ s1 E1 => ⟨F1, Same.id F1, fun _ _ _ => rfl, E1, h1⟩⟩
    unfold rangeL
    rw [List.getElem?_map, List.getElem?_range hn]
    rfl
end
/-- a list, a tuple, a text: walked -/
def iAny (K : PySem.W.Frag) (tl : TE) : TI := fun σ H R => tl σ H fun x H1 => (∃ a, x = .ref a ∧ (∃ xs, SqL K H1 a xs) ∧ R (Itl K a) H1) ∨ (∃ a, x = .ref a ∧ (∃ xs, SqT K H1 a xs) ∧ R (Itt K a) H1) ∨ ∃ z, x = .str z ∧ R (Its z) H1
section
variable {X : Cx} {tg : Expr} {W : WX}
theorem pi_any {l : Expr} {tl : TE} (hl : PE X l tl) : PI X tg l (iAny X.K tl) := by
  refine ⟨fun pins s σ H R I h => ?_⟩
  refine thn (hl.run pins s σ H _ I h) fun v s1 ⟨x, H1, I1, r1, q1⟩ => ?_
  rcases q1 with ⟨a, e, hq, q⟩ | ⟨a, e, hq, q⟩ | ⟨z, e, q⟩
  · subst e
    cases r1
    obtain ⟨its, rv, p, hz⟩ := I1.list hq.choose_spec
    refine wpAny_pyIter_list p.isList ?_
    refine ⟨s1.heap.objs.size, [s1.heap.objs.size], _, _, H1, rfl, I1.kept (t' := s1.toks) fun b o e => Heap.get?_push_of_some _ e, turn_list a _, ⟨_, Heap.get?_push_size _ rfl, rfl, rfl⟩, fun b hb => ?_, q⟩
    have e : b = s1.heap.objs.size := by simpa using hb
    subst e
    exact I1.fpOk (Nat.le_refl _) (I1.hok.fresh (Nat.le_refl _))
  · subst e
    cases r1
    obtain ⟨its, rv, p, hz⟩ := I1.tuple hq.choose_spec
    refine wpAny_pyIter_tuple (show s1.heap.IsTuple a its.toArray from p) ?_
    refine ⟨s1.heap.objs.size, [s1.heap.objs.size], _, _, H1, rfl, I1.kept (t' := s1.toks) fun b o e => Heap.get?_push_of_some _ e, turn_tuple a _, ⟨_, Heap.get?_push_size _ rfl, rfl, rfl⟩, fun b hb => ?_, q⟩
    have e : b = s1.heap.objs.size := by simpa using hb
    subst e
    exact I1.fpOk (Nat.le_refl _) (I1.hok.fresh (Nat.le_refl _))
  · subst e
    obtain ⟨t, rfl⟩ := r1
    cases ha : z.cps.all (· < 128)
    · exact PySem.wpAny_pyIter_wide ha (pi_one (tk := s1.toks) I1 _ (turn_str _ z t "str_iterator" (.inr rfl)) ⟨_, Heap.get?_push_size _ rfl, rfl, rfl⟩ q)
    · exact PySem.wpAny_pyIter_ascii ha (pi_one (tk := s1.toks) I1 _ (turn_str _ z t "str_ascii_iterator" (.inl rfl)) ⟨_, Heap.get?_push_size _ rfl, rfl, rfl⟩ q)
theorem di_of {iter : Expr} {t : TI} {wi : WI} (h : PI X tg iter t) (k : ∀ σ H Q, liftI X.K X.mg W wi σ H Q → t σ H Q) : DI X W tg iter wi := ⟨h.imp k⟩
theorem di_any {e : Expr} {w : WE} (he : DE X W e w) : DI X W tg e (wIt w) := di_of (pi_any he.pe) fun σ H Kn ⟨B, F, Γ, Q, Xq, E, hw, k, kx⟩ => ⟨B, F, Γ, _, Xq, E, hw, fun v r H' F' Γ' s E' rr q => by
  obtain ⟨F2, s2, E2, rr2⟩ := E'.fz rr
  have q' : match wIt.rdf r with
    | some d => match items d with
      | some l => Q l Γ'
      | none => False
    | none => False := q
  have go : ∀ d, Rep X.K F2 v d → (match items d with
      | some l => Q l Γ'
      | none => False) → (∃ a, v = .ref a ∧ (∃ xs, SqL X.K H' a xs) ∧ Kn (Itl X.K a) H') ∨ (∃ a, v = .ref a ∧ (∃ xs, SqT X.K H' a xs) ∧ Kn (Itt X.K a) H') ∨ ∃ z, v = .str z ∧ Kn (Its z) H' := fun d hr hq => by
    cases d with
    | list l =>
      obtain ⟨a, vs, e, h1, h2⟩ := hr
      exact .inl ⟨a, e, ⟨vs, sql_mono E2.ex h1⟩, k _ l H' F2 Γ' (s.trans s2) E2 (walks_list h1 h2) hq⟩
    | tuple l =>
      obtain ⟨a, vs, e, h1, h2⟩ := hr
      exact .inr (.inl ⟨a, e, ⟨vs, sqt_mono E2.ex h1⟩, k _ l H' F2 Γ' (s.trans s2) E2 (walks_tup h1 h2) hq⟩)
    | str x => exact .inr (.inr ⟨x, hr, k _ (signs x) H' F2 Γ' (s.trans s2) E2 walks_str hq⟩)
    | _ => exact hq.elim
  cases r with
  | d x => exact go x rr2 q'
  | o l => exact go (.list l) rr2 q'
  | b i => exact q'.elim, kx⟩
theorem di_rng1 {a : Expr} {p pos : Pos} {wa : WA} (ha : DA X W [a] wa) (hm : X.mg "range" = none) (hg : Gl X "range" := by rfl) (hs : starEach [a] X.env = [(false, eval a X.env)] := by rfl) : DI X W tg (.Call (.Name "range" p) [a] [] pos) (wRng1 wa) :=
  di_of (pi_range1 hg hm ha.pa hs) fun σ H Kn ⟨B, F, Γ, Q, Xq, E, hw, k, kx⟩ => ⟨B, F, Γ, _, Xq, E, hw, fun vs rs H' F' Γ' s E' rr q => by
    obtain ⟨n, e, hn, q⟩ := q
    subst e
    obtain ⟨v, ws, e1, h1, h2⟩ := rr
    rw [show ws = [] from h2, show v = V.int _ from h1] at e1
    exact ⟨_, e1, hn.1, hn.2, k _ _ H' F' Γ' s E' walks_range q⟩, kx⟩
theorem di_rng2 {a b : Expr} {p pos : Pos} {wa : WA} (ha : DA X W [a, b] wa) (hm : X.mg "range" = none) (hg : Gl X "range" := by rfl) (hs : starEach [a, b] X.env = [(false, eval a X.env), (false, eval b X.env)] := by rfl) (hs2 : starEach [b] X.env = [(false, eval b X.env)] := by rfl) : DI X W tg (.Call (.Name "range" p) [a, b] [] pos) (wRng2 wa) :=
  di_of (pi_range2 hg hm ha.pa hs hs2) fun σ H Kn ⟨B, F, Γ, Q, Xq, E, hw, k, kx⟩ => ⟨B, F, Γ, _, Xq, E, hw, fun vs rs H' F' Γ' s E' rr q => by
    obtain ⟨i, j, e, hi, hj, q⟩ := q
    subst e
    obtain ⟨v, ws, e1, h1, v2, ws2, e2, h2, h3⟩ := rr
    rw [show v = V.int _ from h1, e2, show ws2 = [] from h3, show v2 = V.int _ from h2] at e1
    exact ⟨_, _, e1, ⟨hi.1, hi.2, hj.1, hj.2⟩, k _ _ H' F' Γ' s E' walks_range q⟩, kx⟩
end
/-! ### for -/
structure ForI (t : Tg) (body : WS) (P : Pst) (ds : List PyData) (I : List PyData → G → Prop) : Prop where
  step : ∀ (pre : List PyData) (d : PyData) (post : List PyData) (Γ : G), ds = pre ++ d :: post → I pre Γ → wG t d Γ (fun Γ2 => body Γ2 { P with nx := I (pre ++ [d]), ct := I (pre ++ [d]), bk := P.nx })
  fin : ∀ Γ, I ds Γ → P.nx Γ
def wFor (wi : WI) (t : Tg) (body : WS) : WS := fun Γ P => wi Γ (fun ds Γ1 => ∃ I, I [] Γ1 ∧ ForI t body P ds I) P.xc
section
variable {X : Cx} {W : WX} {pos : Pos} {tg iter : Expr} {body : List Stmt} {wi : WI} {t : Tg} {u : WS}
theorem ds_for (hp : PassesOwn (model X.prog X.w) X.A X.env X.xe) (hc : X.calm = true) (hi : DI X W tg iter wi) (hg : PG X tg (gOf X.K t)) (hb : DSs X W body u)
    (hs : ∀ x, foldedSetIterable iter X.env x = pure x := by intro _; rfl) : DS X W (.For tg iter body [] pos) (wFor wi t u) :=
  ds_of (ps_for hp hc hi.pi hg hb.pss hs) fun D σ H ⟨B, F, Γ, P, E, hw, k⟩ => ⟨B, F, Γ, _, P.xc, E, hw, fun J ds H1 F1 Γ1 s1 E1 wk q => by
    obtain ⟨I, i0, fi⟩ := q
    refine ⟨fun i m σ H => m = ds.length - i ∧ i ≤ ds.length ∧ ∃ F Γ, Same F1 F ∧ EnvR X.K B F H σ Γ ∧ I (ds.take i) Γ, ⟨ds.length, by simp, Nat.zero_le _, F1, Γ1, Same.id F1, E1, i0⟩, ?_⟩
    rintro i m σ2 H2 ⟨rfl, hi, F2, Γ2, s2, E2, q2⟩
    by_cases hlt : i < ds.length
    · refine .inr ⟨wk.go i H2 (fun a o h => E2.ex a o (s2 a o h)) hlt, fun σ H => ∃ F Γ, Same F1 F ∧ EnvR X.K B F H σ Γ ∧ I (ds.take (i + 1)) Γ, fun σ' H' ⟨F, Γ, a, b, c⟩ => ⟨ds.length - (i + 1), by omega, rfl, hlt, F, Γ, a, b, c⟩, fun x H3 y => ?_⟩
      obtain ⟨sH, d, hd, hw⟩ := wk.yld i H2 x H3 (fun a o h => E2.ex a o (s2 a o h)) hlt y
      obtain ⟨F3, s3, _, E3, hr⟩ := hw B F2 σ2 Γ2 s2 E2
      have ed : ds = ds.take i ++ d :: ds.drop (i + 1) := by
        rw [List.getElem?_eq_getElem hlt] at hd
        rw [← Option.some.inj hd]
        simp
      have et : ds.take (i + 1) = ds.take i ++ [d] := by
        rw [List.getElem?_eq_getElem hlt] at hd
        rw [← Option.some.inj hd]
        exact (List.take_append_getElem hlt).symm
      rw [et]
      refine g_go E3 hr (fi.step _ d _ _ ed q2) fun σ4 Γ4 E4 _ q4 => ?_
      exact ⟨B, F3, Γ4, _, E4, q4, fun σ' H' F' Γ' s E' q => ⟨F', Γ', (s2.trans s3).trans s, E', q⟩, fun v r σ' H' F' Γ' s => k.rt v r σ' H' F' Γ' (((s1.trans s2).trans s3).trans s), fun σ' H' F' Γ' s => k.nx σ' H' F' Γ' (((s1.trans s2).trans s3).trans s),
        fun σ' H' F' Γ' s E' q => ⟨F', Γ', (s2.trans s3).trans s, E', q⟩, fun σ' => (k.xc σ').mono ((s1.trans s2).trans s3)⟩
    · have e : i = ds.length := by omega
      subst e
      refine .inl ⟨wk.stop H2 fun a o h => E2.ex a o (s2 a o h), k.nx σ2 H2 F2 Γ2 (s1.trans s2) E2 (fi.fin Γ2 ?_)⟩
      rw [List.take_length] at q2
      exact q2, k.xc σ⟩
end
end DL

namespace DL
open PySem L2
/-! ### comprehensions -/
def noMut (Γ : G) : List Nat → Prop
  | [] => True
  | i :: is => (match Γ[i]? with
    | some (.own _) => False
    | some (.cell _) => False
    | _ => True) ∧ noMut Γ is
def wipeG (Γ : G) : List Nat → G
  | [] => Γ
  | i :: is => (wipeG Γ is).set i .no
def backG (Γ0 : G) : G → List Nat → G
  | Γ, [] => Γ
  | Γ, i :: is => match Γ0[i]? with
    | some s => backG Γ0 (Γ.set i s) is
    | none => backG Γ0 Γ is
def noX : XQ := fun _ _ => False
def rdf : R → Option PyData
  | .d x => some x
  | .o l => some (.list l)
  | .b _ => none
def wYes : WT := fun Γ Q _ => Q true Γ
/-- one turn of a comprehension: what is made of it, if anything -/
def lcS (t : Tg) (cond : WT) (elt : WE) (vs : List Nat) (Kn : Option PyData → G → Prop) (d : PyData) (Γ : G) : Prop := wG t d Γ (fun Γ2 => cond Γ2 (fun b Γ3 => if b = true then elt Γ3 (fun r Γ4 => match rdf r with
    | some x => Kn (some x) (wipeG Γ4 vs)
    | none => False) noX else Kn none (wipeG Γ3 vs)) noX)
structure LcI (t : Tg) (cond : WT) (elt : WE) (vs : List Nat) (Fin : List PyData → G → Prop) (ds : List PyData) (I : List PyData → List PyData → G → Prop) : Prop where
  step : ∀ (pre : List PyData) (d : PyData) (post acc : List PyData) (Γ : G), ds = pre ++ d :: post → I pre acc Γ → lcS t cond elt vs (fun o Γ' => I (pre ++ [d]) (acc ++ o.toList) Γ') d Γ
  fin : ∀ acc Γ, I ds acc Γ → Fin acc Γ
def wLc (wi : WI) (t : Tg) (cond : WT) (elt : WE) (vs : List Nat) : WE := fun Γ Q X => wi Γ (fun ds Γ1 => noMut Γ1 vs ∧ ds.length < sizeLine ∧ ∃ I, I [] [] (wipeG Γ1 vs) ∧ LcI t cond elt vs (fun acc Γ2 => Q (.o acc) (backG Γ1 Γ2 vs)) ds I) X
section
variable {K : PySem.W.Frag} {mg : Str → Option Value} {W : WX} {B : Bs} {F F' F2 H H' H2 : Hp} {σ σ' : St} {Γ Γ' Γ0 : G}
theorem EnvR.wiped (E : EnvR K B F H σ Γ) : ∀ {vs : List Nat}, (∀ i ∈ vs, B.pin i = none) → EnvR K B F H (wipe σ vs) (wipeG Γ vs)
  | [], _ => E
  | i :: vs, h => (E.wiped (vs := vs) fun j hj => h j (List.mem_cons_of_mem _ hj)).putSl (h i List.mem_cons_self) (.inl rfl)
theorem noMut_at : ∀ {vs : List Nat} {i : Nat}, noMut Γ vs → i ∈ vs → ∀ s, Γ[i]? = some s → s = Sl.no ∨ ∃ d, s = Sl.v d
  | j :: vs, i, h, hm, s, e => by
    rcases List.mem_cons.mp hm with z | z
    · subst z
      have h1 := h.1
      rw [e] at h1
      cases s with
      | no => exact .inl rfl
      | v d => exact .inr ⟨d, rfl⟩
      | own l => exact h1.elim
      | cell l => exact h1.elim
    · exact noMut_at h.2 z s e
theorem EnvR.noPin (E : EnvR K B F H σ Γ) {vs : List Nat} (h : noMut Γ vs) : ∀ i ∈ vs, B.pin i = none := fun i hi => by
  cases q : B.pin i with
  | none => rfl
  | some p =>
    obtain ⟨l, a1, _⟩ := E.pin i p q
    rcases noMut_at h hi _ a1 with z | ⟨d, z⟩ <;> cases z
/-- back from the block: its own slots as they were -/
theorem EnvR.back (E0 : EnvR K B F H σ Γ0) (s : Same F F') : ∀ {vs : List Nat} {Γ : G}, vs.Nodup → noMut Γ0 vs → EnvR K B F' H' (wipe σ vs) Γ → EnvR K B F' H' σ (backG Γ0 Γ vs)
  | [], Γ, _, _, E => E
  | i :: vs, Γ, nd, nm, E => by
    have np := E0.noPin nm i List.mem_cons_self
    have nd' := List.nodup_cons.mp nd
    have base : ∀ {s : Sl} {x : Option V}, (wipe σ vs)[i]? = some x → (s = Sl.no ∨ ∃ d v, s = Sl.v d ∧ x = some v ∧ Rep K F' v d) → EnvR K B F' H' (wipe σ vs) (Γ.set i s) := fun {s x} hx hs => by
      have q := E.putSl (x := x) np hs
      have e : (wipe σ (i :: vs)).set i x = wipe σ vs := by
        show ((wipe σ vs).set i none).set i x = wipe σ vs
        rw [List.set_set]
        apply List.ext_getElem?
        intro j
        by_cases hij : i = j
        · subst hij
          have hl := (List.getElem?_eq_some_iff.mp hx).1
          rw [List.getElem?_set_self hl, hx]
        · rw [List.getElem?_set_ne hij]
      rw [e] at q
      exact q
    unfold backG
    cases e : Γ0[i]? with
    | none =>
      refine EnvR.back E0 s nd'.2 nm.2 ?_
      have hl : ¬ i < (wipe σ vs).length := by
        rw [wipe_length, E0.len]
        intro z
        rw [List.getElem?_eq_none_iff] at e
        omega
      have e2 : wipe σ (i :: vs) = wipe σ vs := by
        show (wipe σ vs).set i none = wipe σ vs
        rw [List.set_eq_of_length_le (Nat.le_of_not_lt hl)]
      rw [e2] at E
      exact E
    | some sl =>
      refine EnvR.back E0 s nd'.2 nm.2 ?_
      have hlt : i < (wipe σ vs).length := by rw [wipe_length, E0.len]; exact lt_of_get e
      have hx : (wipe σ vs)[i]? = σ[i]? := wipe_out nd'.1
      rcases noMut_at nm List.mem_cons_self sl e with z | ⟨d, z⟩
      · exact base (List.getElem?_eq_getElem hlt) (.inl z)
      · subst z
        obtain ⟨v, h1, h2⟩ := E0.val i d e
        exact base (hx.trans h1) (.inr ⟨d, v, rfl, rfl, Rep.mono s _ _ h2⟩)
end
section
variable {X : Cx} {W : WX} {pos : Pos} {tg iter elt : Expr} {ifs : List Expr} {wi : WI} {t : Tg} {cond : WT} {w : WE}
/-- the tests of a comprehension -/
structure DTs (X : Cx) (W : WX) (ifs : List Expr) (w : WT) : Prop where
  pts : PTs X ifs (liftT X.K X.mg W w)
theorem dts_nil : DTs X W [] wYes := ⟨⟨fun pins s σ H Q I hw => by
  obtain ⟨B, F, Γ, Qq, Xq, E, hw, k, kx⟩ := hw
  exact (pts_nil (X := X)).run pins s σ H Q I (k true H F Γ (Same.id F) E hw)⟩⟩
theorem dts_one {c : Expr} (h : DT X W c cond) : DTs X W [c] cond := ⟨pts_one h.pt⟩
abbrev WF : WX := fun _ _ _ _ => False
theorem wipe2 (us : List Nat) (τ : St) : wipe (wipe τ us) us = wipe τ us := by
  apply List.ext_getElem?
  intro j
  by_cases hj : j ∈ us
  · have z : ∀ (τ : St), j < τ.length → (wipe τ us)[j]? = some none := fun τ hl => by
      have hl' : j < (wipe τ us).length := by rw [wipe_length]; exact hl
      cases e : (wipe τ us)[j]? with
      | none => rw [List.getElem?_eq_none_iff] at e; omega
      | some o =>
        cases o with
        | none => rfl
        | some v => exact absurd hj (wipe_some e).2
    by_cases hl : j < τ.length
    · rw [z τ hl, z (wipe τ us) (by rw [wipe_length]; exact hl)]
    · rw [List.getElem?_eq_none (by rw [wipe_length, wipe_length]; omega), List.getElem?_eq_none (by rw [wipe_length]; omega)]
  · rw [wipe_out hj]
theorem wipeG_at : ∀ {us : List Nat} {Γ : G} {j : Nat} {s : Sl} {l : List PyData}, (wipeG Γ us)[j]? = some s → s.mu = some l → j ∉ us ∧ Γ[j]? = some s
  | [], _, _, _, _, h, _ => ⟨by simp, h⟩
  | i :: us, Γ, j, s, l, h, hm => by
    have h' : ((wipeG Γ us).set i Sl.no)[j]? = some s := h
    by_cases hij : i = j
    · subst hij
      rw [set_self_eq h'] at hm
      cases hm
    · rw [get_set_ne hij] at h'
      obtain ⟨a, b⟩ := wipeG_at h' hm
      exact ⟨fun z => (List.mem_cons.mp z).elim (fun e => hij e.symm) a, b⟩
theorem mut_wipe {us : List Nat} {τ σ : St} {Γ : G} {a : Addr} (h : MutAt (wipe σ us) (wipeG Γ us) a) : MutAt σ Γ a := by
  obtain ⟨i, s, l, a1, a2, a3⟩ := h
  obtain ⟨b1, b2⟩ := wipeG_at a1 a2
  rw [wipe_out b1] at a3
  exact ⟨i, s, l, b2, a2, a3⟩
theorem backG_at {Γ0 : G} : ∀ {us : List Nat} {Γ : G} {j : Nat} {s : Sl} {l : List PyData}, noMut Γ0 us → j < Γ0.length → (backG Γ0 Γ us)[j]? = some s → s.mu = some l → j ∉ us ∧ Γ[j]? = some s
  | [], _, _, _, _, _, _, h, _ => ⟨by simp, h⟩
  | i :: us, Γ, j, s, l, nm, hj, h, hm => by
    unfold backG at h
    cases e : Γ0[i]? with
    | none =>
      rw [e] at h
      obtain ⟨a, b⟩ := backG_at nm.2 hj h hm
      refine ⟨fun z => (List.mem_cons.mp z).elim (fun q => ?_) a, b⟩
      rw [← q, List.getElem?_eq_none_iff] at e
      omega
    | some t =>
      rw [e] at h
      obtain ⟨a, b⟩ := backG_at nm.2 hj h hm
      by_cases hij : i = j
      · subst hij
        have := set_self_eq b
        subst this
        rcases noMut_at nm List.mem_cons_self s e with z | ⟨d, z⟩ <;> rw [z] at hm <;> cases hm
      · rw [get_set_ne hij] at b
        exact ⟨fun z => (List.mem_cons.mp z).elim (fun q => hij q.symm) a, b⟩
theorem lc_go {K : PySem.W.Frag} {mg : Str → Option Value} {σ : St} {H : Hp} {Kn : VK} {vs : List Nat} (nd : vs.Nodup) (ht : ∀ i ∈ t.slots, i ∈ vs) (h : liftE K mg W (wLc wi t cond w vs) σ H Kn) :
    tLc (liftI K mg W wi) (gOf K t) (liftT K mg WF cond) (liftE K mg WF w) vs σ H Kn := by
  obtain ⟨B, F, Γ, Q, Xq, E, hw, k, kx⟩ := h
  refine ⟨B, F, Γ, _, Xq, E, hw, fun J ds H1 F1 Γ1 s1 E1 wk q => ?_, kx⟩
  obtain ⟨nm, hlen, I, i0, li⟩ := q
  have np := E1.noPin nm
  intro D hD
  have hDF : F1 D = none := none_back E1.ex hD
  have hD0 : B.H0 D = none := E1.old hD
  have noM : ¬ MutAt σ Γ1 D := fun ⟨i, s, l, a1, a2, a3⟩ => by
    obtain ⟨_, ws, c, _⟩ := E1.muH a1 a2 a3
    rw [hD] at c; cases c
  -- what holds between the turns
  refine ⟨fun i m H => m = ds.length - i ∧ i ≤ ds.length ∧ ∃ F Γ acc accV, Same F1 F ∧ EnvR K B F H (wipe σ vs) Γ ∧ H D = some (.lst accV) ∧ F D = none ∧ ¬ MutAt (wipe σ vs) Γ D ∧ Reps K F accV acc ∧ acc.length ≤ i ∧
    I (ds.take i) acc Γ, ⟨ds.length, by simp, Nat.zero_le _, F1, _, [], [], Same.id F1, ((E1.wiped np).poke hD0 hDF ?_), upd_same, hDF, ?_, rfl, Nat.le_refl _, i0⟩, ?_⟩
  · rintro ⟨i, s, l, a1, a2, a3⟩
    obtain ⟨_, ws, c, _⟩ := (E1.wiped np).muH a1 a2 a3
    rw [hD] at c; cases c
  · rintro ⟨i, s, l, a1, a2, a3⟩
    obtain ⟨_, ws, c, _⟩ := (E1.wiped np).muH a1 a2 a3
    rw [hD] at c; cases c
  rintro i m H2 ⟨rfl, hi, F2, Γ2, acc, accV, s2, E2, dD, dF, dM, rA, lA, q2⟩
  by_cases hlt : i < ds.length
  · refine .inr ⟨wk.go i H2 (fun a o h => E2.ex a o (s2 a o h)) hlt, fun H => ∃ F Γ acc accV, Same F1 F ∧ EnvR K B F H (wipe σ vs) Γ ∧ H D = some (.lst accV) ∧ F D = none ∧ ¬ MutAt (wipe σ vs) Γ D ∧ Reps K F accV acc ∧ acc.length ≤ i + 1 ∧
      I (ds.take (i + 1)) acc Γ, fun H' hN => ⟨ds.length - (i + 1), by omega, rfl, hlt, hN⟩, fun x H3 y => ?_⟩
    obtain ⟨sH, d, hd, hw⟩ := wk.yld i H2 x H3 (fun a o h => E2.ex a o (s2 a o h)) hlt y
    obtain ⟨F3, s3, fz3, E3, hr⟩ := hw B F2 (wipe σ vs) Γ2 s2 E2
    have ed : ds = ds.take i ++ d :: ds.drop (i + 1) := by
      rw [List.getElem?_eq_getElem hlt] at hd
      rw [← Option.some.inj hd]
      simp
    have et : ds.take (i + 1) = ds.take i ++ [d] := by
      rw [List.getElem?_eq_getElem hlt] at hd
      rw [← Option.some.inj hd]
      exact (List.take_append_getElem hlt).symm
    rw [et]
    have q3 := li.step _ d _ acc Γ2 ed q2
    unfold lcS at q3
    have dD3 : H3 D = some (.lst accV) := sH D _ dD
    have dF3 : F3 D = none := (fz3 D _ dD).trans dF
    refine g_go E3.rebase hr q3 fun σ4 Γ4 E4 hwip q4 => ⟨by rw [hwip vs ht, wipe2], ?_⟩
    have ew : wipe σ4 vs = wipe σ vs := by rw [hwip vs ht, wipe2]
    have hmw : ∀ Γ', MutAt (wipe σ vs) (wipeG Γ' vs) D → MutAt σ4 Γ' D := fun Γ' z => mut_wipe (us := vs) (τ := σ4) (by rw [ew]; exact z)
    refine ⟨_, F3, Γ4, _, noX, E4, q4, fun b H5 F5 Γ5 s5 E5 q5 => ?_, fun x cls dd H' F' Γ' h => h.elim⟩
    cases b with
    | false =>
      obtain ⟨c1, c2, c3⟩ := E3.stay E5 dD3 dM
      have E6 := (E3.unbase E5).wiped np
      rw [hwip vs ht, wipe2] at E6
      have q5' : I (ds.take i ++ [d]) (acc ++ (none : Option PyData).toList) (wipeG Γ5 vs) := q5
      rw [Option.toList_none, List.append_nil] at q5'
      refine ⟨F5, _, acc, accV, (s2.trans s3).trans s5, E6, c1, c2.trans dF3, fun z => c3 (hmw _ z), Reps.mono (s3.trans s5) _ _ rA, Nat.le_succ_of_le lA, q5'⟩
    | true =>
      have q5' : w Γ5 (fun r Γ4 => match rdf r with
        | some x => I (ds.take i ++ [d]) (acc ++ (some x : Option PyData).toList) (wipeG Γ4 vs)
        | none => False) noX := q5
      show liftE K mg WF w σ4 H5 _
      refine ⟨_, F5, Γ5, _, noX, E5, q5', fun v r H6 F6 Γ6 s6 E6 rr q6 => ?_, fun x cls dd H' F' Γ' h => h.elim⟩
      obtain ⟨F7, s7, E7, rr7⟩ := E6.fz rr
      have q6' : match rdf r with
        | some x => I (ds.take i ++ [d]) (acc ++ (some x : Option PyData).toList) (wipeG Γ6 vs)
        | none => False := q6
      obtain ⟨c1, c2, c3⟩ := E3.stay E7 dD3 dM
      have E8 := E3.unbase E7
      have c2' : F7 D = none := c2.trans dF3
      have fin : ∀ x, Rep K F7 v x → I (ds.take i ++ [d]) (acc ++ [x]) (wipeG Γ6 vs) →
          ∃ acc, H6 D = some (.lst acc) ∧ acc.length < sizeLine ∧ ∃ F Γ acc' accV, Same F1 F ∧ EnvR K B F (upd H6 D (.lst (acc ++ [v]))) (wipe σ vs) Γ ∧ (upd H6 D (.lst (acc ++ [v]))) D = some (.lst accV) ∧ F D = none ∧ ¬ MutAt (wipe σ vs) Γ D ∧ Reps K F accV acc' ∧ acc'.length ≤ i + 1 ∧
            I (ds.take i ++ [d]) acc' Γ := fun x hx hq => by
        have E9 := (E8.poke (o := .lst (accV ++ [v])) hD0 c2' c3).wiped np
        rw [hwip vs ht, wipe2] at E9
        refine ⟨accV, c1, (by rw [rA.len]; omega), F7, _, acc ++ [x], accV ++ [v], (((s2.trans s3).trans s5).trans s6).trans s7, E9, upd_same, c2', fun z => c3 (hmw _ z), (Reps.mono (((s3.trans s5).trans s6).trans s7) _ _ rA).append (Reps.one hx), ?_, hq⟩
        rw [List.length_append, List.length_singleton]; omega
      cases r with
      | d x => exact fin x rr7 q6'
      | o l => exact fin (.list l) rr7 q6'
      | b j => exact q6'.elim
  · have e : i = ds.length := by omega
    subst e
    refine .inl ⟨wk.stop H2 fun a o h => E2.ex a o (s2 a o h), ?_⟩
    rw [List.take_length] at q2
    have q2 := li.fin acc Γ2 q2
    have Eb := E1.back s2 nd nm E2
    refine k (.ref D) (.o acc) H2 F2 _ (s1.trans s2) Eb ⟨D, accV, rfl, dF, dD, rA, hD0, fun j s m a1 a2 a3 => ?_⟩ q2
    have nj : j ∉ vs ∧ Γ2[j]? = some s := backG_at nm (by
      have := lt_of_get a1
      rw [← Eb.len, E1.len] at this
      exact this) a1 a2
    exact dM ⟨j, s, m, nj.2, a2, by rw [wipe_out nj.1]; assumption⟩
theorem de_lc {scope : Scope} {own : List (Str × Nat)} (hc : X.calm = true) (hN : X.N.Nodup) (hi : DI X W tg iter wi) (ok : BlkOk X.N X.env.scope scope own)
    (hg : ∀ (s : Shared) (H : Hp) (C : Addr) (cl : List (Str × Addr)) (fp : List Addr), PG (X.blk s H scope (PySem.compEnvC scope cl C X.env) fp) tg (gOf X.K t)) (ht : ∀ (s : Shared) (H : Hp) (C : Addr) (cl : List (Str × Addr)) (fp : List Addr), DTs (X.blk s H scope (PySem.compEnvC scope cl C X.env) fp) WF ifs cond)
    (he : ∀ (s : Shared) (H : Hp) (C : Addr) (cl : List (Str × Addr)) (fp : List Addr), DE (X.blk s H scope (PySem.compEnvC scope cl C X.env) fp) WF elt w) (nd : (own.map (·.2)).Nodup := by decide) (hsl : ∀ i ∈ t.slots, i ∈ own.map (·.2) := by decide) (hs : ∀ x, foldedSetIterable iter X.env x = pure x := by intro _; rfl) :
    DE X W (.ListComp elt [⟨tg, iter, ifs, 0⟩] scope pos) (wLc wi t cond w (own.map (·.2))) :=
  de_of (pe_lc hc hN hi.pi ok hg (fun s H C cl fp => (ht s H C cl fp).pts) (fun s H C cl fp => (he s H C cl fp).pe) hs) fun _ _ _ h => lc_go nd hsl h
theorem ds_setLc {i : Nat} {y : Str} {py spos : Pos} {scope : Scope} {own : List (Str × Nat)} (hc : X.calm = true) (hN : X.N.Nodup) (hi : DI X W tg iter wi) (ok : BlkOk X.N X.env.scope scope own)
    (hg : ∀ (s : Shared) (H : Hp) (C : Addr) (cl : List (Str × Addr)) (fp : List Addr), PG (X.blk s H scope (PySem.compEnvC scope cl C X.env) fp) tg (gOf X.K t)) (ht : ∀ (s : Shared) (H : Hp) (C : Addr) (cl : List (Str × Addr)) (fp : List Addr), DTs (X.blk s H scope (PySem.compEnvC scope cl C X.env) fp) WF ifs cond)
    (he : ∀ (s : Shared) (H : Hp) (C : Addr) (cl : List (Str × Addr)) (fp : List Addr), DE (X.blk s H scope (PySem.compEnvC scope cl C X.env) fp) WF elt w)
    (hsw : swapsWith (.ListComp elt [⟨tg, iter, ifs, 0⟩] scope pos) (some (.Name y py)) spos.line X.env = pure true := by exact sw_true rfl rfl rfl (by decide +kernel))
    (hy : X.N[i]? = some y := by rfl) (hyl : X.env.scope.names.lookup y = some .local := by rfl) (nd : (own.map (·.2)).Nodup := by decide) (hsl : ∀ i ∈ t.slots, i ∈ own.map (·.2) := by decide) (hs : ∀ x, foldedSetIterable iter X.env x = pure x := by intro _; rfl) :
    DS X W (.Assign [.Name y py] (.ListComp elt [⟨tg, iter, ifs, 0⟩] scope pos) spos) (wSet (wLc wi t cond w (own.map (·.2))) i) :=
  ds_of (ps_setLc hc hN hy hyl hsw hi.pi ok hg (fun s H C cl fp => (ht s H C cl fp).pts) (fun s H C cl fp => (he s H C cl fp).pe) hs) fun D σ H h => lc_go (W := W) nd hsl (set_go h)
end
/-! ### lists written -/
def mutAt (Γ : G) (i : Nat) : Option (List PyData) := match Γ[i]? with
  | some s => s.mu
  | none => none
def putAt (Γ : G) (i : Nat) (l : List PyData) : G := match Γ[i]? with
  | some s => Γ.set i (s.put l)
  | none => Γ
def wApp (i : Nat) (w : WE) : WS := fun Γ P => (∃ l, mutAt Γ i = some l) ∧ w Γ (fun r Γ1 => match rdf r, mutAt Γ1 i with
  | some d, some l => l.length < sizeLine ∧ P.nx (putAt Γ1 i (l ++ [d]))
  | _, _ => False) P.xc
def wPop (i : Nat) : WS := fun Γ P => match mutAt Γ i with
  | some l => l ≠ [] ∧ P.nx (putAt Γ i l.dropLast)
  | none => False
def wSetIx (i : Nat) (w wi : WE) : WS := fun Γ P => w Γ (fun r Γ1 => (∃ l, mutAt Γ1 i = some l) ∧ wi Γ1 (fun ri Γ2 => ∃ d k l j, rdf r = some d ∧ ri = .d (.int k) ∧ mutAt Γ2 i = some l ∧ ixN l.length k = some j ∧ P.nx (putAt Γ2 i (l.set j d))) P.xc) P.xc
theorem mutAt_some {Γ : G} {i : Nat} {l : List PyData} (h : mutAt Γ i = some l) : ∃ s : Sl, Γ[i]? = some s ∧ s.mu = some l ∧ ∀ c, putAt Γ i c = Γ.set i (s.put c) := by
  unfold mutAt at h
  cases e : Γ[i]? with
  | none => rw [e] at h; cases h
  | some s =>
    rw [e] at h
    exact ⟨s, rfl, h, fun c => by unfold putAt; rw [e]⟩
section
variable {K : PySem.W.Frag} {B : Bs} {F F' H H' : Hp} {σ : St} {Γ : G}
/-- a list of ours written in its place -/
theorem EnvR.writeL (E : EnvR K B F H σ Γ) {i : Nat} {l c : List PyData} {p : Addr} {ws : List V} (h : mutAt Γ i = some l) (hp : σ[i]? = some (some (V.ref p))) (hr : Reps K F ws c) : EnvR K B F (upd H p (.lst ws)) σ (putAt Γ i c) := by
  obtain ⟨s, h1, h2, h3⟩ := mutAt_some h
  rw [h3]
  refine E.write h1 h2 hp (fun a o n q => by rw [upd_ne n]; exact q) (Same.id F) (fun a o q => ?_) (fun _ _ _ => rfl) upd_same hr fun _ _ _ => rfl
  have : a ≠ p := ne_of_none q (E.muH h1 h2 hp).1
  rw [upd_ne this]
  exact E.ex a o q
end
section
variable {X : Cx} {W : WX} {e : Expr} {w wi : WE} {i : Nat} {x : Str} {px apos pos pos2 : Pos}
theorem ds_append {pos3 : Pos} (h0 : PE X (.Call (.Attribute (.Name x px) "append" apos) [e] [] pos) (tBM X.K "list" rAppend (tVar i) (tCons (liftE X.K X.mg W w) tNil)))
    (hs : swapsWith (.Call (.Attribute (.Name x px) "append" apos) [e] [] pos) none pos3.line X.env = pure false := by rfl) :
    DS X W (.Expr (.Call (.Attribute (.Name x px) "append" apos) [e] [] pos) pos3) (wApp i w) :=
  ds_of (ps_expr h0 hs) fun D σ H ⟨B, F, Γ, P, E, hw, k⟩ => by
    obtain ⟨⟨l, hl⟩, hw⟩ := hw
    obtain ⟨s, a1, a2, a3⟩ := mutAt_some hl
    obtain ⟨p, vs, b1, b2, b3, b4, b5⟩ := E.mu i s l a1 a2
    refine ⟨V.ref p, b1, .inl ⟨rfl, _, SqL.of b3⟩, B, F, Γ, _, P.xc, E, hw, fun v r H1 F1 Γ1 s1 E1 rr q => ?_, k.xc σ⟩
    obtain ⟨F2, s2, E2, rr2⟩ := E1.fz rr
    have q' : match rdf r, mutAt Γ1 i with
      | some d, some l => l.length < sizeLine ∧ P.nx (putAt Γ1 i (l ++ [d]))
      | _, _ => False := q
    cases em : mutAt Γ1 i with
    | none => rw [em] at q'; cases e : rdf r <;> rw [e] at q' <;> exact q'.elim
    | some l1 =>
      obtain ⟨s', c1, c2, c3⟩ := mutAt_some em
      obtain ⟨p', vs', d1, d2, d3, d4, d5⟩ := E2.mu i s' l1 c1 c2
      rw [b1] at d1
      cases d1
      rw [em] at q'
      have fin : ∀ d, Rep X.K F2 v d → (l1.length < sizeLine ∧ P.nx (putAt Γ1 i (l1 ++ [d]))) → rAppend (V.ref p) [v] H1 fun _ H1 => D.nx σ H1 := fun d hd hq =>
        ⟨p, vs', v, rfl, rfl, d3, by rw [d4.len]; exact hq.1, k.nx σ _ F2 _ (s1.trans s2) (E2.writeL em b1 (d4.append (Reps.one hd))) hq.2⟩
      cases r with
      | d x => exact fin x rr2 q'
      | o l => exact fin (.list l) rr2 q'
      | b j => exact q'.elim
theorem ds_pop {pos3 : Pos} (h0 : PE X (.Call (.Attribute (.Name x px) "pop" apos) [] [] pos) (tBM0 X.K "list" rPop (tVar i)))
    (hs : swapsWith (.Call (.Attribute (.Name x px) "pop" apos) [] [] pos) none pos3.line X.env = pure false := by rfl) :
    DS X W (.Expr (.Call (.Attribute (.Name x px) "pop" apos) [] [] pos) pos3) (wPop i) :=
  ds_of (ps_expr h0 hs) fun D σ H ⟨B, F, Γ, P, E, hw, k⟩ => by
    have hw' : match mutAt Γ i with
      | some l => l ≠ [] ∧ P.nx (putAt Γ i l.dropLast)
      | none => False := hw
    cases em : mutAt Γ i with
    | none => rw [em] at hw'; exact hw'.elim
    | some l =>
      rw [em] at hw'
      obtain ⟨s, a1, a2, a3⟩ := mutAt_some em
      obtain ⟨p, vs, b1, b2, b3, b4, b5⟩ := E.mu i s l a1 a2
      have hne : 0 < vs.length := by rw [b4.len]; exact List.length_pos_iff.mpr hw'.1
      exact ⟨V.ref p, b1, .inl ⟨rfl, _, SqL.of b3⟩, p, vs, _, rfl, rfl, b3, List.getElem?_eq_getElem (by omega), k.nx σ _ F _ (Same.id F) (E.writeL em b1 b4.dropLast) hw'.2⟩
theorem ds_setIx {ei : Expr} {tpos : Pos} (hv : PE X (.Name x px) (tVar i)) (he : DE X W e w) (hi : DE X W ei wi) (hs : swapsWithSole [.Subscript (.Name x px) ei tpos] e pos.line X.env = pure false := by rfl) (hw : swappedStores [.Subscript (.Name x px) ei tpos] e X.env = pure none := by rfl)
    (h1 : (assignEach [.Subscript (.Name x px) ei tpos] X.env).map (·.2) = [assign (.Subscript (.Name x px) ei tpos) X.env] := by rfl)
    (ha : ∀ v, assign (.Subscript (.Name x px) ei tpos) X.env v = (do
      let ov ← holding [v] (eval (.Name x px) X.env)
      let iv ← holding [v, ov] (eval ei X.env)
      standAt tpos
      holding [v, ov, iv] (setItem ov iv v)
      release [v, ov, iv] []) := by intro _; rfl) : DS X W (.Assign [.Subscript (.Name x px) ei tpos] e pos) (wSetIx i w wi) :=
  ds_of (ps_asg he.pe (pg_sub hv hi.pe set_list ha) hs hw h1) fun D σ H ⟨B, F, Γ, P, E, hw, k⟩ => by
    refine ⟨B, F, Γ, _, P.xc, E, hw, fun v r H1 F1 Γ1 s1 E1 rr q => ?_, k.xc σ⟩
    obtain ⟨⟨l, hl⟩, q⟩ := q
    obtain ⟨s, a1, a2, a3⟩ := mutAt_some hl
    obtain ⟨F2, s2, E2, rr2⟩ := E1.fz rr
    obtain ⟨p, vs, b1, _⟩ := E2.mu i s l a1 a2
    refine ⟨V.ref p, b1, B, F2, Γ1, _, P.xc, E2, q, fun vi ri H3 F3 Γ3 s3 E3 rr3 q3 => ?_, (k.xc σ).mono (s1.trans s2)⟩
    obtain ⟨d, kk, l3, j, e1, e2, em, ej, q⟩ := q3
    subst e2
    obtain ⟨s', c1, c2, c3⟩ := mutAt_some em
    obtain ⟨p', vs', d1, d2, d3, d4, d5⟩ := E3.mu i s' l3 c1 c2
    rw [b1] at d1
    cases d1
    have fin : Rep X.K F3 v d → rSetL (V.ref p) vi v H3 fun H3 => D.nx σ H3 := fun hd =>
      ⟨p, vs', kk, j, rfl, rr3, d3, by rw [d4.len]; exact ej, k.nx σ _ F3 _ ((s1.trans s2).trans s3) (E3.writeL em b1 (d4.set j hd)) q⟩
    cases r with
    | d x => cases e1; exact fin (Rep.mono s3 _ _ rr2)
    | o l => cases e1; exact fin (Rep.mono s3 _ _ rr2)
    | b j => cases e1
end
end DL

namespace DL
open PySem L2
/-! ### a def -/
def cellF : Sl → Option (List PyData)
  | .cell l => some l
  | _ => none
def cellsOf (n : Nat) (Γ : G) : List (List PyData) := (Γ.take n).filterMap cellF
def R.ok : R → Prop
  | .b _ => False
  | _ => True
def endP (n : Nat) (Q : R → List (List PyData) → Prop) (X : XN → Prop) : Pst where
  nx := fun Γ => Q (.d .none) (cellsOf n Γ)
  rt := fun r Γ => r.ok ∧ Q r (cellsOf n Γ)
  bk := fun _ => False
  ct := fun _ => False
  xc := fun x _ => X x
abbrev WD (E : XK) : WX := fun cls d _ H => E cls d H
section
variable {K : PySem.W.Frag} {mg : Str → Option Value} {B : Bs} {F F' H H' : Hp} {σ : St} {Γ : G}
theorem EnvR.pad (E : EnvR K B F H σ Γ) (m : Nat) : EnvR K B F H (σ ++ List.replicate m none) (Γ ++ List.replicate m Sl.no) := by
  have gl : ∀ {i : Nat} {s : Sl}, (Γ ++ List.replicate m Sl.no)[i]? = some s → (Γ[i]? = some s ∧ (σ ++ List.replicate m none)[i]? = σ[i]?) ∨ s = Sl.no := fun {i s} h => by
    by_cases hi : i < Γ.length
    · rw [List.getElem?_append_left hi] at h
      exact .inl ⟨h, List.getElem?_append_left (by rw [E.len]; exact hi)⟩
    · rw [List.getElem?_append_right (Nat.le_of_not_lt hi), List.getElem?_replicate] at h
      split at h
      · cases h; exact .inr rfl
      · cases h
  have up : ∀ {i : Nat} {s : Sl}, Γ[i]? = some s → (Γ ++ List.replicate m Sl.no)[i]? = some s ∧ (σ ++ List.replicate m none)[i]? = σ[i]? := fun {i s} h => by
    have hi := lt_of_get h
    exact ⟨by rw [List.getElem?_append_left hi]; exact h, List.getElem?_append_left (by rw [E.len]; exact hi)⟩
  refine ⟨E.ex, by rw [List.length_append, List.length_append, List.length_replicate, List.length_replicate, E.len], fun i d h => ?_, fun i s l h hm => ?_, fun i p h => ?_, fun i l h => ?_, fun i j s t l m p h1 h2 h3 h4 e1 e2 => ?_, E.keep, E.frz⟩
  · rcases gl h with ⟨a, b⟩ | z
    · rw [b]; exact E.val i d a
    · cases z
  · rcases gl h with ⟨a, b⟩ | z
    · rw [b]; exact E.mu i s l a hm
    · rw [z] at hm; cases hm
  · obtain ⟨l, a, b⟩ := E.pin i p h
    obtain ⟨c, d⟩ := up a
    exact ⟨l, c, d.trans b⟩
  · rcases gl h with ⟨a, b⟩ | z
    · exact E.cel i l a
    · cases z
  · rcases gl h1 with ⟨a, b⟩ | z
    · rcases gl h2 with ⟨a', b'⟩ | z
      · rw [b] at e1
        rw [b'] at e2
        exact E.apart i j s t _ _ p a a' h3 h4 e1 e2
      · rw [z] at h4; cases h4
    · rw [z] at h3; cases h3
theorem cells_of : ∀ {as : List Sl} {vs : List V} {Γ' : G} {σ' : St}, vs.length = as.length →
    (∀ (i : Nat) (s : Sl), as[i]? = some s → (∃ l, s = Sl.cell l ∧ ∃ (l' : List PyData) (p : Addr) (ws : List V), Γ'[i]? = some (Sl.cell l') ∧ vs[i]? = some (V.ref p) ∧ F' p = none ∧ H' p = some (.lst ws) ∧ Reps K F' ws l') ∨ ((∀ l, s ≠ Sl.cell l) ∧ ∀ l', Γ'[i]? ≠ some (Sl.cell l'))) →
    CellsR K F' H' vs as (cellsOf as.length Γ')
  | [], vs, Γ', σ', hl, _ => by
    cases vs with
    | nil => exact trivial
    | cons v vs => cases hl
  | s :: as, [], _, _, hl, _ => by cases hl
  | s :: as, v :: vs, [], σ', hl, h => by
    have ih := cells_of (as := as) (vs := vs) (Γ' := []) (σ' := σ') (by simpa using hl) fun i s' e => by
      rcases h (i + 1) s' (by simpa using e) with ⟨_, _, _, _, _, a1, _⟩ | q
      · simp at a1
      · exact .inr ⟨q.1, fun l' => by simp⟩
    rcases h 0 s rfl with ⟨_, _, _, _, _, a1, _⟩ | ⟨n1, n2⟩
    · simp at a1
    · have e1 : cellsOf as.length [] = [] := by simp [cellsOf]
      have e2 : cellsOf (s :: as).length [] = [] := by simp [cellsOf]
      rw [e1] at ih
      rw [e2]
      cases s with
      | cell l => exact absurd rfl (n1 l)
      | no => exact ih
      | v _ => exact ih
      | own _ => exact ih
  | s :: as, v :: vs, g :: Γ', σ', hl, h => by
    have ih := cells_of (as := as) (vs := vs) (Γ' := Γ') (σ' := σ') (by simpa using hl) fun i s' e => by
      have := h (i + 1) s' (by simpa using e)
      simpa using this
    rcases h 0 s rfl with ⟨l, e, l', p, ws, a1, a2, a3, a4, a5⟩ | ⟨n1, n2⟩
    · subst e
      have eg : g = Sl.cell l' := by simpa using a1
      subst eg
      have ev : v = V.ref p := by simpa using a2
      subst ev
      show CellsR K F' H' (V.ref p :: vs) (Sl.cell l :: as) (l' :: cellsOf as.length Γ')
      exact ⟨⟨p, ws, rfl, a3, a4, a5⟩, ih⟩
    · have eg : cellF g = none := by
        cases g with
        | cell l' => exact absurd rfl (n2 l')
        | _ => rfl
      have ec : cellsOf (s :: as).length (g :: Γ') = cellsOf as.length Γ' := by
        show ((g :: Γ').take (as.length + 1)).filterMap cellF = _
        rw [List.take_succ_cons, List.filterMap_cons, eg]
        rfl
      rw [ec]
      cases s with
      | cell l => exact absurd rfl (n1 l)
      | no => exact ih
      | v _ => exact ih
      | own _ => exact ih
end
section
variable {P : Program} {w : World} {K : PySem.W.Frag} {mg : Str → Option Value} {base : Heap}
theorem fn_end {N ps : List Str} {fs : FS} {u : WS} (len : ∀ as Q X, fs as Q X → as.length = ps.length) (wp : ∀ as Q X, fs as Q X → u (as ++ List.replicate (N.length - ps.length) Sl.no) (endP ps.length Q X)) {vs : List V} {H : Hp} {Q : VK} {E : XK} (h : spOf K mg fs vs H Q E) :
    liftS K mg (WD E) u { nx := fun _ H' => Q .non H', rt := Q } (L2.start N vs) H := by
  obtain ⟨pin, F, as, Q', X', E1, no, h1, hq, hx⟩ := h
  have la : as.length = ps.length := len _ _ _ h1
  have lv : vs.length = as.length := by
    have := E1.len
    rwa [List.length_map] at this
  have st0 : L2.start N vs = vs.map some ++ List.replicate (N.length - ps.length) none := by
    unfold L2.start
    rw [lv, la]
  rw [st0]
  refine ⟨⟨H, F, pin⟩, F, _, _, E1.pad _, wp as Q' X' h1, ?_⟩
  have cells : ∀ {σ' : St} {H' F' : Hp} {Γ' : G}, EnvR K ⟨H, F, pin⟩ F' H' σ' Γ' → CellsR K F' H' vs as (cellsOf ps.length Γ') := fun {σ' H' F' Γ'} E' => by
    rw [← la]
    refine cells_of (σ' := σ') lv fun i s' e => ?_
    have other : (∀ l, s' ≠ Sl.cell l) → ∀ l', Γ'[i]? ≠ some (Sl.cell l') := fun n l' z => by
      obtain ⟨p, hp⟩ := E'.cel i l' z
      obtain ⟨l1, b1, b2⟩ := E1.pin i p hp
      rw [e] at b1
      exact n _ (Option.some.inj b1)
    cases s' with
    | cell l =>
      refine .inl ⟨l, rfl, ?_⟩
      obtain ⟨p, hp⟩ := E1.cel i l e
      obtain ⟨l1, b1, b2⟩ := E1.pin i p hp
      obtain ⟨l', c1, c2⟩ := E'.pin i p hp
      obtain ⟨d1, ws, d2, d3⟩ := E'.muH c1 rfl c2
      have b3 : vs[i]? = some (V.ref p) := by
        rw [List.getElem?_map] at b2
        cases ev : vs[i]? with
        | none => rw [ev] at b2; cases b2
        | some v0 =>
          rw [ev] at b2
          have : (some (some v0) : Option (Option V)) = some (some (V.ref p)) := b2
          cases this
          rfl
      exact ⟨l', p, ws, c1, b3, d1, d2, d3⟩
    | no => exact .inr ⟨(fun l z => by cases z), other fun l z => by cases z⟩
    | v d => exact .inr ⟨(fun l z => by cases z), other fun l z => by cases z⟩
    | own d => exact .inr ⟨(fun l z => by cases z), other fun l z => by cases z⟩
  refine ⟨fun σ' H' F' Γ' s1 E' q => ?_, fun v r σ' H' F' Γ' s1 E' rr q => ?_, fun _ _ _ _ _ _ z => z.elim, fun _ _ _ _ _ _ z => z.elim, fun σ' x cls dd H' F' Γ' hxx s1 E' xr => ?_⟩
  · exact hq .non (.d .none) H' F' _ s1 E'.ex E'.keep E'.frz (cells E') rfl q
  · obtain ⟨ok, q⟩ := q
    refine hq v r H' F' _ s1 E'.ex E'.keep E'.frz (cells E') ?_ q
    cases r with
    | d x => exact rr
    | o l => obtain ⟨p, vs, e, h1, h2, h3, h4, _⟩ := rr; exact ⟨p, vs, e, h1, h2, h3, h4⟩
    | b i => exact ok.elim
  · exact hx x cls dd H' F' hxx s1 E'.ex E'.keep E'.frz xr
theorem fn_dl {x qual : Str} {st : Stmt} {f : Addr} {fd : FuncData} {N ps : List Str} {k : Nat} {fs : FS} {u : WS} (Fn : Fun K x qual st f fd) (S : FnScope N ps (defScope st)) (len : ∀ as Q X, fs as Q X → as.length = ps.length)
    (der : ∀ (cdv : Value) (A : Around) (outer : List Env) (s : Shared) (H : Hp) (E : XK), Room k (A.deeper (PyProof.Rows.envOfC qual (defScope st) s.heap.objs.size f cdv)) →
      DSs (cxOf (L2.CX P w) P w K mg base N qual (defScope st) f cdv A outer s H E) (WD E) (defBody st) u)
    (wp : ∀ as Q X, fs as Q X → u (as ++ List.replicate (N.length - ps.length) Sl.no) (endP ps.length Q X)) : FnOk P w K mg base (L2.CX P w) (k + 1) f fd ps (spOf K mg fs) := by
  refine Fn.okX S (fun vs H Q E h => ?_) (fun cdv A outer s H vs Q E hr h => ⟨_, (der cdv A outer s H E hr).pss, ?_⟩)
  · obtain ⟨pin, F, as, Q', X', E1, _, h1, _⟩ := h
    have := E1.len
    rw [List.length_map] at this
    rw [this]
    exact len _ _ _ h1
  · exact fn_end len wp h
end
end DL

namespace DL
open PySem L2
/-! ### what the built-in operations do to data -/
def fAdd : FP := fun x y Q => match x, y with
  | .int i, .int j => Q (.d (.int (i + j)))
  | .str a, .str b => a.length + b.length ≤ sizeLine ∧ Q (.d (.str (a ++ b)))
  | .list l, .list m => l.length + m.length ≤ sizeLine ∧ Q (.o (l ++ m))
  | .tuple l, .tuple m => l.length + m.length ≤ sizeLine ∧ Q (.d (.tuple (l ++ m)))
  | _, _ => False
def fInt (C : Int → Int → Prop) (g : Int → Int → Int) : FP := fun x y Q => match x, y with
  | .int i, .int j => C i j ∧ Q (.d (.int (g i j)))
  | _, _ => False
abbrev fSub : FP := fInt (fun _ _ => True) (· - ·)
abbrev fMul : FP := fInt CMul (· * ·)
abbrev fMod : FP := fInt (fun _ j => 0 < j) (· % ·)
abbrev fDiv : FP := fInt CDiv (· / ·)
abbrev fPow : FP := fInt CPow (fun i j => i ^ j.toNat)
def fCmp (gi : Int → Int → Bool) (gs : List Nat → List Nat → Bool) : FP := fun x y Q => match x, y with
  | .int i, .int j => Q (.d (.bool (gi i j)))
  | .str a, .str b => Q (.d (.bool (gs a.cps.toList b.cps.toList)))
  | _, _ => False
abbrev fLt : FP := fCmp (fun i j => decide (i < j)) (fun a b => decide (a < b))
abbrev fLe : FP := fCmp (fun i j => decide (i ≤ j)) (fun a b => !decide (b < a))
abbrev fGt : FP := fCmp (fun i j => decide (j < i)) (fun a b => decide (b < a))
abbrev fGe : FP := fCmp (fun i j => decide (j ≤ i)) (fun a b => !decide (a < b))
def scalD : PyData → PyData → Bool
  | .none, .none => true
  | .none, .int _ => true
  | .int _, .none => true
  | .none, .bool _ => true
  | .bool _, .none => true
  | .none, .str _ => true
  | .str _, .none => true
  | .int _, .int _ => true
  | .bool _, .bool _ => true
  | .str _, .str _ => true
  | .int _, .str _ => true
  | .str _, .int _ => true
  | .bool _, .str _ => true
  | .str _, .bool _ => true
  | _, _ => false
def eqOk (x y : PyData) : Prop := scalD x y = true ∨ (SeqAt.shaped x = true ∧ SeqAt.shaped y = true)
def fEq : FP := fun x y Q => eqOk x y ∧ Q (.d (.bool (PyData.eqv x y)))
def fNe : FP := fun x y Q => eqOk x y ∧ Q (.d (.bool (!PyData.eqv x y)))
def isNone : PyData → Bool
  | .none => true
  | _ => false
def fIsN : FP := fun x y Q => y = .none ∧ Q (.d (.bool (isNone x)))
def fNotN : FP := fun x y Q => y = .none ∧ Q (.d (.bool (!isNone x)))
def flat : PyData → Bool
  | .none => true
  | .bool _ => true
  | .int _ => true
  | .str _ => true
  | _ => false
def inD (x : PyData) (l : List PyData) : Bool := l.any fun y => PyData.eqv y x
def fIn (neg : Bool) : FP := fun x y Q => match y with
  | .list l => flat x = true ∧ l.all flat = true ∧ Q (.d (.bool (if neg then !inD x l else inD x l)))
  | .tuple l => flat x = true ∧ l.all flat = true ∧ Q (.d (.bool (if neg then !inD x l else inD x l)))
  | .str z => ∃ c, x = .str ⟨#[c]⟩ ∧ Q (.d (.bool (if neg then !decide (c ∈ z.cps.toList) else decide (c ∈ z.cps.toList))))
  | _ => False
def fIx : FP := fun x y Q => match x, y with
  | .list l, .int i => ∃ d, atI l i = some d ∧ Q (.d d)
  | .tuple l, .int i => ∃ d, atI l i = some d ∧ Q (.d d)
  | .str z, .int i => z.length ≤ sizeLine ∧ ∃ c, atI z.cps.toList i = some c ∧ Q (.d (.str ⟨#[c]⟩))
  | _, _ => False
def cutL (xs : List PyData) (lo hi : Option Int) : List PyData := (xs.drop (HT.sIx xs.length 0 lo)).take (HT.sIx xs.length xs.length hi - HT.sIx xs.length 0 lo)
def fSl : FSl := fun x lo hi Q => match x with
  | .list l => Q (.o (cutL l lo hi))
  | .tuple l => Q (.d (.tuple (cutL l lo hi)))
  | .str z => z.length ≤ sizeLine ∧ Q (.d (.str (cutS z lo hi)))
  | _ => False
def fLen : FL := fun xs Q => match xs with
  | [.list l] => Q (.d (.int (l.length : Int)))
  | [.tuple l] => Q (.d (.int (l.length : Int)))
  | [.str z] => z.length ≤ sizeLine ∧ Q (.d (.int (z.length : Int)))
  | _ => False
def fToInt : FL := fun xs Q => match xs with
  | [.int i] => Q (.d (.int i))
  | _ => False
def fToStr : FL := fun xs Q => match xs with
  | [.int i] => i.natAbs.log2 < 1920 ∧ Q (.d (.str (Str.ofString (toString i))))
  | _ => False
def fToTup : FL := fun xs Q => match xs with
  | [.list l] => Q (.d (.tuple l))
  | [.tuple l] => Q (.d (.tuple l))
  | _ => False
def fToLst : FL := fun xs Q => match xs with
  | [.list l] => Q (.o l)
  | [.tuple l] => Q (.o l)
  | _ => False
def bools : List PyData → Option (List Bool)
  | [] => some []
  | .bool b :: r => (bools r).map (b :: ·)
  | _ => none
def fAll : FL := fun xs Q => match xs with
  | [.list l] => ∃ bs, bools l = some bs ∧ Q (.d (.bool (bs.all id)))
  | _ => False
def fAny : FL := fun xs Q => match xs with
  | [.list l] => ∃ bs, bools l = some bs ∧ Q (.d (.bool (bs.any id)))
  | _ => False
section
open PyProof.Rows
variable {X : Cx}
theorem op_catL : OpR X (binaryOp .Add) (fun x y H Q => ∃ l b xs zs, x = .ref l ∧ y = .ref b ∧ SqL X.K H l xs ∧ SqL X.K H b zs ∧ xs.length + zs.length ≤ sizeLine ∧ ∀ p, H p = none → Q (.ref p) (upd H p (.lst (xs ++ zs)))) := by
  intro pins s σ H x y v u Q I rx ry h
  obtain ⟨l, b, xs, zs, rfl, rfl, hH, hB, hz, q⟩ := h
  cases rx
  cases ry
  obtain ⟨its, r, ⟨⟨c1, d1, dt1, sl1⟩, n1, e1, c1', d1', p1⟩, _⟩ := I.list hH
  obtain ⟨its2, r2, ⟨⟨c2, d2, dt2, sl2⟩, n2, e2, c2', d2', p2⟩, _⟩ := I.list hB
  simp only at c1' d1' p1 c2' d2' p2
  subst c1' d1' p1 c2' d2' p2
  have l1 := r.length
  have l2 := r2.length
  have ea : its.toArray ++ its2.toArray = (its ++ its2).toArray := by simp
  refine concat_meets ⟨_, e1, rfl⟩ ⟨_, e2, rfl⟩ noFill_list_add seq_list_add PySem.F.slot_list_add PySem.F.entry_list_add (PySem.F.args_list_add_2 _ _) (list_addW l b its.toArray its2.toArray n1 n2 _ _ sl1 sl2 (by simp; omega)) ⟨e1, e2, ?_⟩
  rw [ea]
  exact ⟨.ref _, _, I.lnew (t' := s.toks) (r.append r2) (by rw [List.length_append]; omega), rfl, q _ I.fresh⟩
end
section
variable {X : Cx} {K : PySem.W.Frag} {B : Bs} {F H : Hp} {σ : St} {Γ : G}
def rAdd : V → V → Hp → VK → Prop := rI0 fun i j => .int (i + j)
def rAddS : V → V → Hp → VK → Prop := fun x y H Q => ∃ i j, x = .str i ∧ y = .str j ∧ i.length + j.length ≤ sizeLine ∧ Q (.str (i ++ j)) H
def rAddL (K : PySem.W.Frag) : V → V → Hp → VK → Prop := fun x y H Q => ∃ l b xs zs, x = .ref l ∧ y = .ref b ∧ SqL K H l xs ∧ SqL K H b zs ∧ xs.length + zs.length ≤ sizeLine ∧ ∀ p, H p = none → Q (.ref p) (upd H p (.lst (xs ++ zs)))
def rAddU (K : PySem.W.Frag) : R2 := fun x y H Q => rAdd x y H Q ∨ rAddS x y H Q ∨ rAddL K x y H Q ∨ rCatA K x y H Q
theorem op_addU : OpR X (binaryOp .Add) (rAddU X.K) := op_add.or (op_add_str.or (op_catL.or op_catA))
theorem p_add : P2 K (rAddU K) fAdd := fun B F H σ Γ u v x y Q Kn E hx hy hf k => by
  cases x <;> cases y <;> first | exact hf.elim | skip
  case int.int i j => exact .inl ⟨i, j, hx, hy, k _ (.d (.int (i + j))) H F (Same.id F) E rfl hf⟩
  case str.str a b => exact .inr (.inl ⟨a, b, hx, hy, hf.1, k _ (.d (.str (a ++ b))) H F (Same.id F) E rfl hf.2⟩)
  case list.list l m =>
    obtain ⟨a, vs, e1, h1, h2⟩ := hx
    obtain ⟨b, ws, e2, h3, h4⟩ := hy
    have rp := h2.append h4
    refine .inr (.inr (.inl ⟨a, b, vs, ws, e1, e2, h1, h3, by rw [h2.len, h4.len]; exact hf.1, fun p hp => k _ (.o (l ++ m)) _ F (Same.id F) (E.layH hp) (rr_new E hp rp) hf.2⟩))
  case tuple.tuple l m =>
    obtain ⟨a, vs, e1, h1, h2⟩ := hx
    obtain ⟨b, ws, e2, h3, h4⟩ := hy
    refine .inr (.inr (.inr ⟨a, b, vs, ws, e1, e2, sqt_mono E.ex h1, sqt_mono E.ex h3, by rw [h2.len, h4.len]; exact hf.1, fun z => ?_, fun z z2 => ?_, fun z z2 p hp => ?_⟩))
    · subst z
      have : l = [] := List.eq_nil_of_length_eq_zero (by rw [← h2.len]; rfl)
      subst this
      exact k _ (.d (.tuple ([] ++ m))) H F (Same.id F) E ⟨b, ws, rfl, h3, h4⟩ hf.2
    · subst z2
      have : m = [] := List.eq_nil_of_length_eq_zero (by rw [← h4.len]; rfl)
      subst this
      exact k _ (.d (.tuple (l ++ []))) H F (Same.id F) E (by rw [List.append_nil]; exact ⟨a, vs, rfl, h1, h2⟩) hf.2
    · exact k _ (.d (.tuple (l ++ m))) _ _ (same_upd (none_back E.ex hp)) (E.lay hp) (rep_tup (none_back E.ex hp) (h2.append h4)) hf.2
theorem p_int {C : Int → Int → Prop} {g : Int → Int → Int} : P2 K (rI C fun i j => .int (g i j)) (fInt C g) := fun B F H σ Γ u v x y Q Kn E hx hy hf k => by
  cases x <;> cases y <;> first | exact hf.elim | skip
  case int.int i j => exact ⟨i, j, hx, hy, hf.1, k _ (.d (.int (g i j))) H F (Same.id F) E rfl hf.2⟩
theorem op_subC : OpR X (binaryOp .Sub) (rI (fun _ _ => True) fun i j => .int (i - j)) := fun pins s σ H x y v u Q I rx ry ⟨i, j, a, b, _, q⟩ => op_sub pins s σ H x y v u Q I rx ry ⟨i, j, a, b, q⟩
def rCmpU (gi : Int → Int → Bool) (gs : List Nat → List Nat → Bool) : R2 := fun x y H Q => (rI0 fun i j => .bl (gi i j)) x y H Q ∨ ∃ i j, x = .str i ∧ y = .str j ∧ Q (.bl (gs i.cps.toList j.cps.toList)) H
theorem p_cmp {gi : Int → Int → Bool} {gs : List Nat → List Nat → Bool} : P2 K (rCmpU gi gs) (fCmp gi gs) := fun B F H σ Γ u v x y Q Kn E hx hy hf k => by
  cases x <;> cases y <;> first | exact hf.elim | skip
  case int.int i j => exact .inl ⟨i, j, hx, hy, k _ (.d (.bool _)) H F (Same.id F) E rfl hf⟩
  case str.str i j => exact .inr ⟨i, j, hx, hy, k _ (.d (.bool _)) H F (Same.id F) E rfl hf⟩
theorem op_ltU : OpR X (compareOp .Lt) (rCmpU (fun i j => decide (i < j)) (fun a b => decide (a < b))) := op_lt.or op_lt_str
theorem op_leU : OpR X (compareOp .LtE) (rCmpU (fun i j => decide (i ≤ j)) (fun a b => !decide (b < a))) := op_le.or op_le_str
theorem op_gtU : OpR X (compareOp .Gt) (rCmpU (fun i j => decide (j < i)) (fun a b => decide (b < a))) := op_gt.or op_gt_str
theorem op_geU : OpR X (compareOp .GtE) (rCmpU (fun i j => decide (j ≤ i)) (fun a b => !decide (a < b))) := op_ge.or op_ge_str
mutual
theorem rep_dp (H : Hp) : ∀ (d : PyData) (v : V), d.canLay0 = true → Rep K H v d → Dp K H v d
  | .none, v, _, h => by rw [show v = .non from h]; exact .non
  | .bool b, v, _, h => by rw [show v = .bl b from h]; exact .bl b
  | .int i, v, _, h => by rw [show v = .int i from h]; exact .int i
  | .str x, v, _, h => by rw [show v = .str x from h]; exact .str x
  | .list l, v, c, ⟨a, vs, e, h1, h2⟩ => by rw [e]; exact .lst h1 (reps_dp H l vs (by simpa [PyData.canLay0] using c) h2)
  | .tuple l, v, c, ⟨a, vs, e, h1, h2⟩ => by rw [e]; exact .tup h1 (reps_dp H l vs (by simpa [PyData.canLay0] using c) h2)
  | .dict l, v, c, _ => by simp [PyData.canLay0] at c
theorem reps_dp (H : Hp) : ∀ (l : List PyData) (vs : List V), PyData.canLayAll0 l = true → Reps K H vs l → DpAll K H vs l
  | [], vs, _, h => by rw [show vs = [] from h]; exact .nil
  | d :: ds, vs, c, ⟨v, r, e, h1, h2⟩ => by
    have c' : d.canLay0 = true ∧ PyData.canLayAll0 ds = true := by simpa [PyData.canLayAll0] using c
    rw [e]; exact .cons (rep_dp H d v c'.1 h1) (reps_dp H ds r c'.2 h2)
end
theorem scal_rep {H : Hp} {x y : PyData} {u v : V} (h : scalD x y = true) (hx : Sh K F H u x) (hy : Sh K F H v y) : scal u v = true ∧ decide (u = v) = PyData.eqv x y := by
  cases x <;> cases y <;> first | (cases h; done) | skip
  all_goals
    rw [show u = _ from hx, show v = _ from hy]
    refine ⟨rfl, ?_⟩
    simp [PyData.eqv, Bool.beq_eq_decide_eq]
def rEqU (K : PySem.W.Frag) : R2 := fun x y H Q => rEq x y H Q ∨ rEqD K x y H Q
def rNeU (K : PySem.W.Frag) : R2 := fun x y H Q => rNe x y H Q ∨ rNeD K x y H Q
theorem op_eqU (hu : X.A.units + 64 < cLine) : OpR X (compareOp .Eq) (rEqU X.K) := op_eq.or (op_eqD hu)
theorem op_neU (hu : X.A.units + 64 < cLine) : OpR X (compareOp .NotEq) (rNeU X.K) := op_ne.or (op_neD hu)
theorem p_eq : P2 K (rEqU K) fEq := fun B F H σ Γ u v x y Q Kn E hx hy hf k => by
  obtain ⟨ok, q⟩ := hf
  rcases ok with h | ⟨s1, s2⟩
  · obtain ⟨a, b⟩ := scal_rep h hx hy
    exact .inl ⟨a, by rw [b]; exact k _ (.d (.bool _)) H F (Same.id F) E rfl q⟩
  · exact .inr ⟨x, y, rep_dp H x u (SeqAt.canLay_of_shaped s1) (hx.rep E.ex), rep_dp H y v (SeqAt.canLay_of_shaped s2) (hy.rep E.ex), s1, s2, k _ (.d (.bool _)) H F (Same.id F) E rfl q⟩
theorem p_ne : P2 K (rNeU K) fNe := fun B F H σ Γ u v x y Q Kn E hx hy hf k => by
  obtain ⟨ok, q⟩ := hf
  rcases ok with h | ⟨s1, s2⟩
  · obtain ⟨a, b⟩ := scal_rep h hx hy
    exact .inl ⟨a, by rw [b]; exact k _ (.d (.bool _)) H F (Same.id F) E rfl q⟩
  · exact .inr ⟨x, y, rep_dp H x u (SeqAt.canLay_of_shaped s1) (hx.rep E.ex), rep_dp H y v (SeqAt.canLay_of_shaped s2) (hy.rep E.ex), s1, s2, k _ (.d (.bool _)) H F (Same.id F) E rfl q⟩
theorem sh_none {H : Hp} {x : PyData} {u : V} (hx : Sh K F H u x) : decide (u = .non) = isNone x := by
  cases x with
  | none => rw [show u = _ from hx]; rfl
  | bool b => rw [show u = _ from hx]; rfl
  | int b => rw [show u = _ from hx]; rfl
  | str b => rw [show u = _ from hx]; rfl
  | list l => obtain ⟨a, vs, e, _⟩ := hx; rw [e]; rfl
  | tuple l => obtain ⟨a, vs, e, _⟩ := hx; rw [e]; rfl
  | dict l => obtain ⟨a, vs, e, _⟩ := hx; rw [e]; rfl
theorem p_isN : P2 K (fun x y H Q => y = .non ∧ Q (.bl (decide (x = .non))) H) fIsN := fun B F H σ Γ u v x y Q Kn E hx hy hf k => by
  obtain ⟨e, q⟩ := hf
  subst e
  exact ⟨hy, by rw [sh_none hx]; exact k _ (.d (.bool _)) H F (Same.id F) E rfl q⟩
theorem p_notN : P2 K (fun x y H Q => y = .non ∧ Q (.bl (!decide (x = .non))) H) fNotN := fun B F H σ Γ u v x y Q Kn E hx hy hf k => by
  obtain ⟨e, q⟩ := hf
  subst e
  exact ⟨hy, by rw [sh_none hx]; exact k _ (.d (.bool _)) H F (Same.id F) E rfl q⟩
/-! ### in -/
theorem flat_rep {H : Hp} {x : PyData} {u : V} (f : flat x = true) (h : Rep K H u x) : flatV u = true := by
  cases x with
  | none => rw [show u = _ from h]; rfl
  | bool b => rw [show u = _ from h]; rfl
  | int b => rw [show u = _ from h]; rfl
  | str b => rw [show u = _ from h]; rfl
  | list l => cases f
  | tuple l => cases f
  | dict l => cases f
theorem eqV_rep {H : Hp} {x y : PyData} {u v : V} (fx : flat x = true) (fy : flat y = true) (hx : Rep K H u x) (hy : Rep K H v y) : eqV u v = PyData.eqv x y := by
  cases x <;> first | (exact Bool.noConfusion (show false = true from fx)) | skip
  all_goals cases y <;> first | (exact Bool.noConfusion (show false = true from fy)) | skip
  all_goals
    rw [show u = _ from hx, show v = _ from hy]
    first | rfl | (simp [eqV, PyData.eqv, Bool.beq_eq_decide_eq]; done) | (simp [eqV, PyData.eqv])
theorem in_rep {H : Hp} {x : PyData} {u : V} (fx : flat x = true) (hx : Rep K H u x) : ∀ {l : List PyData} {vs : List V}, l.all flat = true → Reps K H vs l → vs.all flatV = true ∧ inV u vs = inD x l
  | [], vs, _, h => by rw [show vs = [] from h]; exact ⟨rfl, rfl⟩
  | d :: ds, vs, f, ⟨v, r, e, h1, h2⟩ => by
    subst e
    rw [List.all_cons, Bool.and_eq_true] at f
    obtain ⟨a, b⟩ := in_rep fx hx f.2 h2
    refine ⟨by rw [List.all_cons, a, flat_rep f.1 h1]; rfl, ?_⟩
    show (eqV v u || inV u r) = (PyData.eqv d x || inD x ds)
    rw [b, eqV_rep f.1 fx h1 hx]
def rInU (K : PySem.W.Frag) (neg : Bool) : R2 := fun x y H Q => rIn K neg x y H Q ∨ ∃ (c : Nat) (z : Str), x = .str ⟨#[c]⟩ ∧ y = .str z ∧ Q (.bl (if neg then !decide (c ∈ z.cps.toList) else decide (c ∈ z.cps.toList))) H
theorem op_inU : OpR X (compareOp .In) (rInU X.K false) := op_in_seq.or fun pins s σ H x y v u Q I rx ry ⟨c, z, a, b, q⟩ => op_in_sign pins s σ H x y v u Q I rx ry ⟨c, z, a, b, q⟩
theorem op_ninU : OpR X (compareOp .NotIn) (rInU X.K true) := op_notIn_seq.or fun pins s σ H x y v u Q I rx ry ⟨c, z, a, b, q⟩ => op_notIn_sign pins s σ H x y v u Q I rx ry ⟨c, z, a, b, q⟩
theorem p_in {neg : Bool} : P2 K (rInU K neg) (fIn neg) := fun B F H σ Γ u v x y Q Kn E hx hy hf k => by
  cases y with
  | list l =>
    obtain ⟨f1, f2, q⟩ := hf
    obtain ⟨a, vs, e, h1, h2⟩ := hy
    obtain ⟨g1, g2⟩ := in_rep f1 (hx.rep E.ex) f2 (Reps.mono E.ex _ _ h2)
    exact .inl ⟨a, vs, e, .inl h1, flat_rep f1 (hx.rep E.ex), g1, by rw [g2]; exact k _ (.d (.bool _)) H F (Same.id F) E rfl q⟩
  | tuple l =>
    obtain ⟨f1, f2, q⟩ := hf
    obtain ⟨a, vs, e, h1, h2⟩ := hy
    obtain ⟨g1, g2⟩ := in_rep f1 (hx.rep E.ex) f2 (Reps.mono E.ex _ _ h2)
    exact .inl ⟨a, vs, e, .inr (sqt_mono E.ex h1), flat_rep f1 (hx.rep E.ex), g1, by rw [g2]; exact k _ (.d (.bool _)) H F (Same.id F) E rfl q⟩
  | str z =>
    obtain ⟨c, e, q⟩ := hf
    subst e
    exact .inr ⟨c, z, hx, hy, k _ (.d (.bool _)) H F (Same.id F) E rfl q⟩
  | _ => exact hf.elim
/-! ### items, slices -/
theorem atI_rep {H : Hp} {l : List PyData} {vs : List V} {i : Int} {d : PyData} (r : Reps K H vs l) (h : atI l i = some d) : ∃ v, atI vs i = some v ∧ Rep K H v d := by
  unfold atI at h ⊢
  rw [r.len]
  cases e : ixN l.length i with
  | none => rw [e] at h; cases h
  | some j =>
    rw [e] at h
    exact r.get h
theorem p_ix : P2 K (rIx K) fIx := fun B F H σ Γ u v x y Q Kn E hx hy hf k => by
  cases x <;> cases y <;> first | exact hf.elim | skip
  case list.int l i =>
    obtain ⟨d, e, q⟩ := hf
    obtain ⟨a, vs, e1, h1, h2⟩ := hx
    obtain ⟨w, g1, g2⟩ := atI_rep h2 e
    exact .inl ⟨a, vs, i, w, e1, hy, h1, g1, k w (.d d) H F (Same.id F) E g2 q⟩
  case tuple.int l i =>
    obtain ⟨d, e, q⟩ := hf
    obtain ⟨a, vs, e1, h1, h2⟩ := hx
    obtain ⟨w, g1, g2⟩ := atI_rep h2 e
    exact .inr (.inl ⟨a, vs, i, w, e1, hy, sqt_mono E.ex h1, g1, k w (.d d) H F (Same.id F) E g2 q⟩)
  case str.int z i =>
    obtain ⟨hz, c, e, q⟩ := hf
    exact .inr (.inr ⟨z, i, c, hx, hy, hz, e, k _ (.d (.str ⟨#[c]⟩)) H F (Same.id F) E rfl q⟩)
theorem cut_rep {H : Hp} {l : List PyData} {vs : List V} {lo hi : Option Int} (r : Reps K H vs l) : Reps K H (cutV vs lo hi) (cutL l lo hi) := by
  unfold cutV cutL
  rw [r.len]
  exact (r.drop _).take _
def rSlU (K : PySem.W.Frag) : V → Option Int → Option Int → Hp → VK → Prop := fun x lo hi H Q => rSlL K x lo hi H Q ∨ rSlA K x lo hi H Q ∨ rSlS x lo hi H Q
theorem sl_U : SlR X (rSlU X.K) := sl_list.or (sl_tupA.or sl_str)
theorem p_sl : PSl K (rSlU K) fSl := fun B F H σ Γ u x lo hi Q Kn E hx hf k => by
  cases x with
  | list l =>
    obtain ⟨a, vs, e1, h1, h2⟩ := hx
    exact .inl ⟨a, vs, e1, h1, fun p hp => k _ (.o (cutL l lo hi)) _ F (Same.id F) (E.layH hp) (rr_new E hp (cut_rep h2)) hf⟩
  | tuple l =>
    obtain ⟨a, vs, e1, h1, h2⟩ := hx
    refine .inr (.inl ⟨a, vs, e1, sqt_mono E.ex h1, fun z => ?_, fun z p hp => k _ (.d (.tuple (cutL l lo hi))) _ _ (same_upd (none_back E.ex hp)) (E.lay hp) (rep_tup (none_back E.ex hp) (cut_rep h2)) hf⟩)
    have : cutL l lo hi = l := by
      unfold cutL
      rw [← h2.len, z.1, z.2, h2.len]
      simp
    have hf' : Q (.d (.tuple (cutL l lo hi))) := hf
    rw [this] at hf'
    exact k _ (.d (.tuple l)) H F (Same.id F) E ⟨a, vs, rfl, h1, h2⟩ hf'
  | str z => exact .inr (.inr ⟨z, hx, hf.1, k _ (.d (.str _)) H F (Same.id F) E rfl hf.2⟩)
  | _ => exact hf.elim
end
end DL

namespace DL
open PySem L2
section
variable {X : Cx} {K : PySem.W.Frag} {B : Bs} {F H : Hp} {σ : St} {Γ : G}
theorem Shs.one {vs : List V} {d : PyData} (h : Shs K F H vs [d]) : ∃ v, vs = [v] ∧ Sh K F H v d := by
  obtain ⟨v, r, e, h1, h2⟩ := h
  rw [show r = [] from h2] at e
  exact ⟨v, e, h1⟩
def rLenU (K : PySem.W.Frag) : List V → Hp → VK → Prop := fun xs H Q => (∃ p ys, xs = [.ref p] ∧ (SqL K H p ys ∨ SqT K H p ys) ∧ Q (.int ys.length) H) ∨ ∃ z, xs = [.str z] ∧ z.length ≤ sizeLine ∧ Q (.int z.length) H
theorem call_lenU : CallR X (.builtin "len") (rLenU X.K) := call_len_seq.or call_len_str
theorem p_len : PL K (rLenU K) fLen := fun B F H σ Γ vs xs Q Kn E h hf k => by
  unfold fLen at hf
  split at hf
  · rename_i l
    obtain ⟨v, e, a, ws, e1, h1, h2⟩ := h.one
    subst e1
    exact .inl ⟨a, ws, e, .inl h1, by rw [h2.len]; exact k _ (.d (.int _)) H F (Same.id F) E rfl hf⟩
  · rename_i l
    obtain ⟨v, e, a, ws, e1, h1, h2⟩ := h.one
    subst e1
    exact .inl ⟨a, ws, e, .inr (sqt_mono E.ex h1), by rw [h2.len]; exact k _ (.d (.int _)) H F (Same.id F) E rfl hf⟩
  · rename_i z
    obtain ⟨v, e, h1⟩ := h.one
    rw [show v = .str z from h1] at e
    exact .inr ⟨z, e, hf.1, k _ (.d (.int _)) H F (Same.id F) E rfl hf.2⟩
  · exact hf.elim
theorem p_toInt : PL K (fun xs H Q => (∃ i, xs = [.int i] ∧ Q (.int i) H) ∨ ∃ k, xs = [.bl k] ∧ Q (.int (if k then 1 else 0)) H) fToInt := fun B F H σ Γ vs xs Q Kn E h hf k => by
  unfold fToInt at hf
  split at hf
  · rename_i i
    obtain ⟨v, e, h1⟩ := h.one
    rw [show v = .int i from h1] at e
    exact .inl ⟨i, e, k _ (.d (.int _)) H F (Same.id F) E rfl hf⟩
  · exact hf.elim
theorem p_toStr : PL K (fun xs H Q => ∃ i, xs = [.int i] ∧ i.natAbs.log2 < 1920 ∧ Q (.str (toString i)) H) fToStr := fun B F H σ Γ vs xs Q Kn E h hf k => by
  unfold fToStr at hf
  split at hf
  · rename_i i
    obtain ⟨v, e, h1⟩ := h.one
    rw [show v = .int i from h1] at e
    exact ⟨i, e, hf.1, k _ (.d (.str _)) H F (Same.id F) E rfl hf.2⟩
  · exact hf.elim
theorem p_toTup : PL K (fun xs H Q => ∃ p ys, xs = [.ref p] ∧ ((SqL K H p ys ∧ ∀ l, H l = none → Q (.ref l) (upd H l (.tup ys))) ∨ (SqT K H p ys ∧ Q (.ref p) H))) fToTup := fun B F H σ Γ vs xs Q Kn E h hf k => by
  unfold fToTup at hf
  split at hf
  · rename_i l
    obtain ⟨v, e, a, ws, e1, h1, h2⟩ := h.one
    subst e1
    exact ⟨a, ws, e, .inl ⟨h1, fun p hp => k _ (.d (.tuple l)) _ _ (same_upd (none_back E.ex hp)) (E.lay hp) (rep_tup (none_back E.ex hp) h2) hf⟩⟩
  · rename_i l
    obtain ⟨v, e, a, ws, e1, h1, h2⟩ := h.one
    subst e1
    exact ⟨a, ws, e, .inr ⟨sqt_mono E.ex h1, k _ (.d (.tuple l)) H F (Same.id F) E ⟨a, ws, rfl, h1, h2⟩ hf⟩⟩
  · exact hf.elim
theorem p_toLst : PL K (fun xs H Q => ∃ p ys, xs = [.ref p] ∧ (SqL K H p ys ∨ SqT K H p ys) ∧ ∀ l, H l = none → Q (.ref l) (upd H l (.lst ys))) fToLst := fun B F H σ Γ vs xs Q Kn E h hf k => by
  unfold fToLst at hf
  split at hf
  · rename_i l
    obtain ⟨v, e, a, ws, e1, h1, h2⟩ := h.one
    subst e1
    exact ⟨a, ws, e, .inl h1, fun p hp => k _ (.o l) _ F (Same.id F) (E.layH hp) (rr_new E hp h2) hf⟩
  · rename_i l
    obtain ⟨v, e, a, ws, e1, h1, h2⟩ := h.one
    subst e1
    exact ⟨a, ws, e, .inr (sqt_mono E.ex h1), fun p hp => k _ (.o l) _ F (Same.id F) (E.layH hp) (rr_new E hp h2) hf⟩
  · exact hf.elim
theorem reps_bools : ∀ {l : List PyData} {vs : List V} {bs : List Bool}, Reps K F vs l → bools l = some bs → vs = bs.map V.bl
  | [], vs, bs, h, e => by cases e; exact h
  | .bool b :: l, vs, bs, ⟨v, r, e1, h1, h2⟩, e => by
    have e' : (bools l).map (b :: ·) = some bs := e
    cases q : bools l with
    | none => rw [q] at e'; cases e'
    | some cs =>
      rw [q] at e'
      cases e'
      rw [e1, show v = .bl b from h1, reps_bools h2 q]
      rfl
  | .none :: _, _, _, _, e => by cases e
  | .int _ :: _, _, _, _, e => by cases e
  | .str _ :: _, _, _, _, e => by cases e
  | .list _ :: _, _, _, _, e => by cases e
  | .tuple _ :: _, _, _, _, e => by cases e
  | .dict _ :: _, _, _, _, e => by cases e
theorem p_all : PL K (rAll K) fAll := fun B F H σ Γ vs xs Q Kn E h hf k => by
  unfold fAll at hf
  split at hf
  · rename_i l
    obtain ⟨bs, eb, q⟩ := hf
    obtain ⟨v, e, a, ws, e1, h1, h2⟩ := h.one
    subst e1
    rw [reps_bools h2 eb] at h1
    exact ⟨a, bs, e, h1, k _ (.d (.bool _)) H F (Same.id F) E rfl q⟩
  · exact hf.elim
theorem p_any : PL K (rAny K) fAny := fun B F H σ Γ vs xs Q Kn E h hf k => by
  unfold fAny at hf
  split at hf
  · rename_i l
    obtain ⟨bs, eb, q⟩ := hf
    obtain ⟨v, e, a, ws, e1, h1, h2⟩ := h.one
    subst e1
    rw [reps_bools h2 eb] at h1
    exact ⟨a, bs, e, h1, k _ (.d (.bool _)) H F (Same.id F) E rfl q⟩
  · exact hf.elim
/-! ### isinstance -/
def tyS : PyData → String
  | .none => "NoneType"
  | .bool _ => "bool"
  | .int _ => "int"
  | .str _ => "str"
  | .list _ => "list"
  | .tuple _ => "tuple"
  | .dict _ => "dict"
def isA (c : String) (d : PyData) : Bool := tyS d == c || (c == "int" && tyS d == "bool")
theorem kit_all (a : String) (c : String) (ha : a ∈ ["NoneType", "bool", "int", "str", "list", "tuple", "dict"]) (hc : c ∈ ["bool", "int", "str", "list", "tuple", "dict"]) : kitB a c = some (a == c || (c == "int" && a == "bool")) := by
  simp only [List.mem_cons, List.not_mem_nil, or_false] at ha hc
  rcases ha with rfl | rfl | rfl | rfl | rfl | rfl | rfl <;> rcases hc with rfl | rfl | rfl | rfl | rfl | rfl <;> decide +kernel
theorem tyS_mem (d : PyData) : tyS d ∈ ["NoneType", "bool", "int", "str", "list", "tuple", "dict"] := by cases d <;> simp [tyS]
theorem sh_ty {d : PyData} {v : V} (h : Rep K H v d) : TyX K H v (.type (tyS d)) := by
  cases d with
  | none => rw [show v = _ from h]; exact .base .non
  | bool b => rw [show v = _ from h]; exact .base (.bl b)
  | int b => rw [show v = _ from h]; exact .base (.int b)
  | str b => rw [show v = _ from h]; exact .base (.str b)
  | list l =>
    obtain ⟨a, vs, e, h1, h2⟩ := h
    rw [e]
    rcases h1 with (h1 | ⟨o, h1⟩) | ⟨o, its, n, hk, hc, _⟩
    · exact .base (.lst h1)
    · exact .base (.frz h1)
    · exact .kList hk hc
  | tuple l =>
    obtain ⟨a, vs, e, h1, h2⟩ := h
    rw [e]
    rcases h1 with (h1 | ⟨o, h1⟩) | ⟨o, its, n, hk, hc, _⟩
    · exact .base (.tup h1)
    · exact .fTuple h1
    · exact .kTuple hk hc
  | dict l => obtain ⟨a, vs, e, h1, h2⟩ := h; rw [e]; exact .base (.dK h1)
def wIsi (w : WE) (c : String) : WE := fun Γ Q X => w Γ (fun r Γ1 => match rd Γ1 r with
  | some d => Q (.d (.bool (isA c d))) Γ1
  | none => False) X
def wIsi2 (w : WE) (c c' : String) : WE := fun Γ Q X => w Γ (fun r Γ1 => match rd Γ1 r with
  | some d => Q (.d (.bool (isA c d || isA c' d))) Γ1
  | none => False) X
end
section
variable {X : Cx} {W : WX} {p pc pos : Pos} {e : Expr} {w : WE}
theorem de_isi {c : String} (he : DE X W e w) (hc : c ∈ ["bool", "int", "str", "list", "tuple", "dict"]) {x : Str} (hx : bootBuiltins x = some (.type c)) (hmx : X.mg x = none) (hm : X.mg "isinstance" = none) (hg : Gl X "isinstance" := by rfl) (hgx : Gl X x := by rfl)
    (hn : x ≠ "__name__" := by decide) (hdb : (x == ("__debug__" : Str)) = false := by decide)
    (h1 : starEach [e, .Name x pc] X.env = (false, eval e X.env) :: starEach [.Name x pc] X.env := by rfl) (h2 : starEach [.Name x pc] X.env = (false, eval (.Name x pc) X.env) :: starEach [] X.env := by rfl) (hpl : (backTo pos (starEach [.Name x pc] X.env)).any (·.1) = false := by rfl) :
    DE X W (.Call (.Name "isinstance" p) [e, .Name x pc] [] pos) (wIsi w c) :=
  de_of (pe_callB call_isi hg hm (by decide +kernel) (pa_cons he.pe (pa_cons (pe_bltn (v := .ty c) hgx hmx hx rfl hn hdb) pa_nil h2) h1) (by decide) (by decide) h1 hpl) fun σ H Kn ⟨B, F, Γ, Q, Xq, E, hw, k, kx⟩ => ⟨B, F, Γ, _, Xq, E, hw, fun v r H1 F1 Γ1 s1 E1 rr q => by
    have q' : match rd Γ1 r with
      | some d => Q (.d (.bool (isA c d))) Γ1
      | none => False := q
    cases ex : rd Γ1 r with
    | none => rw [ex] at q'; exact q'.elim
    | some d =>
      rw [ex] at q'
      exact ⟨v, .ty c, .type (tyS d), .type c, isA c d, rfl, .ty c, sh_ty ((E1.sh rr ex).rep E1.ex), kit_ty (kit_all _ _ (tyS_mem d) hc), k _ (.d (.bool _)) H1 F1 Γ1 s1 E1 rfl q'⟩, kx⟩
theorem de_isi2 {c c' : String} (he : DE X W e w) (hc : c ∈ ["bool", "int", "str", "list", "tuple", "dict"]) (hc' : c' ∈ ["bool", "int", "str", "list", "tuple", "dict"]) {x x' : Str} {pc' pt : Pos} {kt} (hx : bootBuiltins x = some (.type c)) (hx' : bootBuiltins x' = some (.type c')) (hmx : X.mg x = none) (hmx' : X.mg x' = none)
    (hm : X.mg "isinstance" = none) (hg : Gl X "isinstance" := by rfl) (hgx : Gl X x := by rfl) (hgx' : Gl X x' := by rfl)
    (hn : x ≠ "__name__" := by decide) (hdb : (x == ("__debug__" : Str)) = false := by decide) (hn' : x' ≠ "__name__" := by decide) (hdb' : (x' == ("__debug__" : Str)) = false := by decide)
    (h1 : starEach [e, .Tuple [.Name x pc, .Name x' pc'] kt pt] X.env = (false, eval e X.env) :: starEach [.Tuple [.Name x pc, .Name x' pc'] kt pt] X.env := by rfl)
    (h2 : starEach [.Tuple [.Name x pc, .Name x' pc'] kt pt] X.env = (false, eval (.Tuple [.Name x pc, .Name x' pc'] kt pt) X.env) :: starEach [] X.env := by rfl) (hpl : (backTo pos (starEach [.Tuple [.Name x pc, .Name x' pc'] kt pt] X.env)).any (·.1) = false := by rfl)
    (h3 : starEach [.Name x pc, .Name x' pc'] X.env = (false, eval (.Name x pc) X.env) :: starEach [.Name x' pc'] X.env := by rfl) (h4 : starEach [.Name x' pc'] X.env = (false, eval (.Name x' pc') X.env) :: starEach [] X.env := by rfl) :
    DE X W (.Call (.Name "isinstance" p) [e, .Tuple [.Name x pc, .Name x' pc'] kt pt] [] pos) (wIsi2 w c c') :=
  de_of (pe_callB call_isiT hg hm (by decide +kernel) (pa_cons he.pe (pa_cons (pe_tup (pa_cons (pe_bltn (v := .ty c) hgx hmx hx rfl hn hdb) (pa_cons (pe_bltn (v := .ty c') hgx' hmx' hx' rfl hn' hdb') pa_nil h4) h3)) pa_nil h2) h1) (by decide) (by decide) h1 hpl)
    fun σ H Kn ⟨B, F, Γ, Q, Xq, E, hw, k, kx⟩ => ⟨B, F, Γ, _, Xq, E, hw, fun v r H1 F1 Γ1 s1 E1 rr q => by
    have q' : match rd Γ1 r with
      | some d => Q (.d (.bool (isA c d || isA c' d))) Γ1
      | none => False := q
    cases ex : rd Γ1 r with
    | none => rw [ex] at q'; exact q'.elim
    | some d =>
      rw [ex] at q'
      refine ⟨by show 2 ≤ sizeLine; decide, fun tp htp => ?_⟩
      have E2 : EnvR X.K B (upd F1 tp (.tup [.ty c, .ty c'])) (upd H1 tp (.tup [.ty c, .ty c'])) σ Γ1 := E1.lay htp
      have s2 := same_upd (o := .tup [.ty c, .ty c']) (none_back E1.ex htp)
      refine ⟨v, tp, [.ty c, .ty c'], .type (tyS d), [.type c, .type c'], isA c d || isA c' d, rfl, upd_same, .cons (.ty c) (.cons (.ty c') .nil), ?_, ?_, k _ (.d (.bool _)) _ _ Γ1 (s1.trans s2) E2 rfl q'⟩
      · exact sh_ty (Rep.mono (same_upd htp) _ _ ((E1.sh rr ex).rep E1.ex))
      · refine kitAny_cons (kit_ty (kit_all _ _ (tyS_mem d) hc)) (fun e => ?_) fun e => ?_
        · refine kitAny_cons (kit_ty (kit_all _ _ (tyS_mem d) hc')) (fun e' => ?_) fun e' => ?_
          · have e1 : isA c d = false := e
            have e2 : isA c' d = false := e'
            rw [e1, e2]; exact kitAny_nil
          · have e2 : isA c' d = true := e'
            rw [e2, Bool.or_true]
        · have e1 : isA c d = true := e
          rw [e1]; rfl, kx⟩
end
/-! ### methods of texts -/
def fSplit : FP := fun x y Q => match x, y with
  | .str a, .str b => (b.length == 0) = false ∧ a.length + 2 ≤ sizeLine ∧ Q (.o ((Txt.split a b).map .str))
  | _, _ => False
def strsD : List PyData → Option (List Str)
  | [] => some []
  | .str x :: r => (strsD r).map (x :: ·)
  | _ => none
def fJoin : FP := fun x y Q => match x, y with
  | .str a, .list l => ∃ ys, strsD l = some ys ∧ (ys.map (·.length)).sum + ys.length * a.length ≤ 16777216 ∧ Q (.d (.str (Txt.join a ys)))
  | .str a, .tuple l => ∃ ys, strsD l = some ys ∧ (ys.map (·.length)).sum + ys.length * a.length ≤ 16777216 ∧ Q (.d (.str (Txt.join a ys)))
  | _, _ => False
def fPart : FP := fun x y Q => match x, y with
  | .str a, .str b => (b.length == 0) = false ∧ a.length ≤ sizeLine ∧ Q (.d (.tuple [.str (Txt.partition a b).1, .str (Txt.partition a b).2.1, .str (Txt.partition a b).2.2]))
  | _, _ => False
def fStart : FP := fun x y Q => match x, y with
  | .str a, .str b => Q (.d (.bool (Txt.startswith a b)))
  | _, _ => False
def fEnd : FP := fun x y Q => match x, y with
  | .str a, .str b => Q (.d (.bool (Txt.endswith a b)))
  | _, _ => False
def fStripC (g : Str → Str → Str) : FP := fun x y Q => match x, y with
  | .str a, .str b => a.length ≤ sizeLine ∧ Q (.d (.str (g a b)))
  | _, _ => False
section
variable {X : Cx} {K : PySem.W.Frag} {B : Bs} {F H : Hp} {σ : St} {Γ : G}
theorem reps_strs {H : Hp} : ∀ ys : List Str, Reps K H (ys.map V.str) (ys.map PyData.str)
  | [] => rfl
  | y :: ys => ⟨_, _, rfl, rfl, reps_strs ys⟩
theorem p_split : P2 K (fun x y H Q => ∃ a b, x = .str a ∧ [y] = [V.str b] ∧ (b.length == 0) = false ∧ a.length + 2 ≤ sizeLine ∧ rNewStrs (Txt.split a b) H Q) fSplit := fun B F H σ Γ u v x y Q Kn E hx hy hf k => by
  unfold fSplit at hf
  split at hf
  · rename_i a b
    refine ⟨a, b, hx, by rw [show v = .str b from hy], hf.1, hf.2.1, fun p hp => ?_⟩
    exact k _ (.o _) _ F (Same.id F) (E.layH hp) (rr_new E hp (reps_strs _)) hf.2.2
  · exact hf.elim
theorem strs_reps : ∀ {l : List PyData} {vs : List V} {ys : List Str}, Reps K F vs l → strsD l = some ys → vs = ys.map V.str
  | [], vs, ys, h, e => by cases e; exact h
  | .str b :: l, vs, ys, ⟨v, r, e1, h1, h2⟩, e => by
    have e' : (strsD l).map (b :: ·) = some ys := e
    cases q : strsD l with
    | none => rw [q] at e'; cases e'
    | some cs =>
      rw [q] at e'
      cases e'
      rw [e1, show v = .str b from h1, strs_reps h2 q]
      rfl
  | .none :: _, _, _, _, e => by cases e
  | .int _ :: _, _, _, _, e => by cases e
  | .bool _ :: _, _, _, _, e => by cases e
  | .list _ :: _, _, _, _, e => by cases e
  | .tuple _ :: _, _, _, _, e => by cases e
  | .dict _ :: _, _, _, _, e => by cases e
theorem p_join : P2 K (fun x y H Q => ∃ a p, ∃ ys : List Str, x = .str a ∧ [y] = [V.ref p] ∧ (SqL K H p (ys.map V.str) ∨ SqT K H p (ys.map V.str)) ∧
    (ys.map (·.length)).sum + ys.length * a.length ≤ 16777216 ∧ Q (.str (Txt.join a ys)) H) fJoin := fun B F H σ Γ u v x y Q Kn E hx hy hf k => by
  unfold fJoin at hf
  split at hf
  · rename_i a l
    obtain ⟨ys, e, hz, q⟩ := hf
    obtain ⟨p, vs, e1, h1, h2⟩ := hy
    rw [strs_reps h2 e] at h1
    exact ⟨a, p, ys, hx, by rw [e1], .inl h1, hz, k _ (.d (.str _)) H F (Same.id F) E rfl q⟩
  · rename_i a l
    obtain ⟨ys, e, hz, q⟩ := hf
    obtain ⟨p, vs, e1, h1, h2⟩ := hy
    rw [strs_reps h2 e] at h1
    exact ⟨a, p, ys, hx, by rw [e1], .inr (sqt_mono E.ex h1), hz, k _ (.d (.str _)) H F (Same.id F) E rfl q⟩
  · exact hf.elim
theorem p_part : P2 K (fun x y H Q => ∃ a b, x = .str a ∧ [y] = [V.str b] ∧ (b.length == 0) = false ∧ a.length ≤ sizeLine ∧
    ∀ p, H p = none → Q (.ref p) (upd H p (.tup [.str (Txt.partition a b).1, .str (Txt.partition a b).2.1, .str (Txt.partition a b).2.2]))) fPart := fun B F H σ Γ u v x y Q Kn E hx hy hf k => by
  unfold fPart at hf
  split at hf
  · rename_i a b
    refine ⟨a, b, hx, by rw [show v = .str b from hy], hf.1, hf.2.1, fun p hp => ?_⟩
    exact k _ (.d (.tuple _)) _ _ (same_upd (none_back E.ex hp)) (E.lay hp) (rep_tup (none_back E.ex hp) (reps_strs [(Txt.partition a b).1, (Txt.partition a b).2.1, (Txt.partition a b).2.2])) hf.2.2
  · exact hf.elim
theorem p_bool2 {g : Str → Str → Bool} {f : FP} (hf0 : ∀ x y Q, f x y Q → ∃ a b, x = .str a ∧ y = .str b ∧ Q (.d (.bool (g a b)))) : P2 K (fun x y H Q => ∃ a b, x = .str a ∧ [y] = [V.str b] ∧ Q (.bl (g a b)) H) f := fun B F H σ Γ u v x y Q Kn E hx hy hf k => by
  obtain ⟨a, b, e1, e2, q⟩ := hf0 x y Q hf
  subst e1; subst e2
  exact ⟨a, b, hx, by rw [show v = .str b from hy], k _ (.d (.bool _)) H F (Same.id F) E rfl q⟩
theorem p_start : P2 K (fun x y H Q => ∃ a b, x = .str a ∧ [y] = [V.str b] ∧ Q (.bl (Txt.startswith a b)) H) fStart := p_bool2 fun x y Q h => by
  unfold fStart at h
  split at h
  · exact ⟨_, _, rfl, rfl, h⟩
  · exact h.elim
theorem p_end : P2 K (fun x y H Q => ∃ a b, x = .str a ∧ [y] = [V.str b] ∧ Q (.bl (Txt.endswith a b)) H) fEnd := p_bool2 fun x y Q h => by
  unfold fEnd at h
  split at h
  · exact ⟨_, _, rfl, rfl, h⟩
  · exact h.elim
theorem p_stripC {g : Str → Str → Str} : P2 K (fun x y H Q => ∃ a b, x = .str a ∧ [y] = [V.str b] ∧ a.length ≤ sizeLine ∧ Q (.str (g a b)) H) (fStripC g) := fun B F H σ Γ u v x y Q Kn E hx hy hf k => by
  unfold fStripC at hf
  split at hf
  · rename_i a b
    exact ⟨a, b, hx, by rw [show v = .str b from hy], hf.1, k _ (.d (.str _)) H F (Same.id F) E rfl hf.2⟩
  · exact hf.elim
end
/-! ### a chain of two comparisons -/
def wChain (f f' : FP) (wa wb wc : WE) : WE := fun Γ Q X => wa Γ (fun ra Γ1 => wb Γ1 (fun rb Γ2 => match rd Γ2 ra, rd Γ2 rb with
  | some x, some y => f x y (fun r => ∃ k, r = .d (.bool k) ∧ (if k = true then wc Γ2 (fun rc Γ3 => match rd Γ3 rb, rd Γ3 rc with
    | some y, some z => f' y z (fun r => Q r Γ3)
    | _, _ => False) X else Q (.d (.bool false)) Γ2))
  | _, _ => False) X) X
section
variable {X : Cx} {W : WX} {pos : Pos} {a b c : Expr} {wa wb wc : WE} {r r' : R2} {f f' : FP}
theorem lift_chain {K : PySem.W.Frag} {mg : Str → Option Value} {σ : St} {H : Hp} {Kn : VK} (p : P2 K r f) (p' : P2 K r' f') (h : liftE K mg W (wChain f f' wa wb wc) σ H Kn) :
    tChain r r' (liftE K mg W wa) (liftE K mg W wb) (liftE K mg W wc) σ H Kn := by
  obtain ⟨B, F, Γ, Q, Xq, E, hw, k, kx⟩ := h
  refine ⟨B, F, Γ, _, Xq, E, hw, fun va ra Ha Fa Γa sa Ea hra hq => ?_, kx⟩
  obtain ⟨Fa', sa', Ea', hra'⟩ := Ea.fz hra
  refine ⟨B, Fa', Γa, _, Xq, Ea', hq, fun vb rb Hb Fb Γb sb Eb hrb hq2 => ?_, kx.mono (sa.trans sa')⟩
  have hq2' : match rd Γb ra, rd Γb rb with
    | some x, some y => f x y (fun r => ∃ k, r = .d (.bool k) ∧ (if k = true then wc Γb (fun rc Γ3 => match rd Γ3 rb, rd Γ3 rc with
      | some y, some z => f' y z (fun r => Q r Γ3)
      | _, _ => False) Xq else Q (.d (.bool false)) Γb))
    | _, _ => False := hq2
  cases ex : rd Γb ra with
  | none => rw [ex] at hq2'; exact hq2'.elim
  | some x =>
    cases ey : rd Γb rb with
    | none => rw [ex, ey] at hq2'; exact hq2'.elim
    | some y =>
      rw [ex, ey] at hq2'
      have sx : Sh K Fb Hb va x := keepR Eb hra' (fz_isO ra) sb (by rw [rd_fz]; exact ex)
      obtain ⟨Fb', sb', Eb', hrb'⟩ := Eb.fz hrb
      have s0 := ((sa.trans sa').trans sb).trans sb'
      have sx' : Sh K Fb' Hb va x := keepR Eb' hra' (fz_isO ra) (sb.trans sb') (by rw [rd_fz]; exact ex)
      refine p B Fb' Hb σ Γb va vb x y _ _ Eb' sx' (Eb'.sh hrb' (by rw [rd_fz]; exact ey)) hq2' fun v r Hc Fc sc Ec rr q => ?_
      obtain ⟨kk, e1, q⟩ := q
      subst e1
      refine ⟨kk, rr_bool rr, ?_⟩
      cases kk with
      | false => exact k (.bl false) (.d (.bool false)) Hc Fc Γb (s0.trans sc) Ec rfl q
      | true =>
        refine ⟨B, Fc, Γb, _, Xq, Ec, q, fun vc rc Hd Fd Γd sd Ed hrc hq3 => ?_, kx.mono (s0.trans sc)⟩
        have hq3' : match rd Γd rb, rd Γd rc with
          | some y, some z => f' y z (fun r => Q r Γd)
          | _, _ => False := hq3
        cases ey' : rd Γd rb with
        | none => rw [ey'] at hq3'; exact hq3'.elim
        | some y' =>
          cases ez : rd Γd rc with
          | none => rw [ey', ez] at hq3'; exact hq3'.elim
          | some z =>
            rw [ey', ez] at hq3'
            have sy : Sh K Fd Hd vb y' := keepR Ed hrb' (fz_isO rb) (sc.trans sd) (by rw [rd_fz]; exact ey')
            exact p' B Fd Hd σ Γd vb vc y' z _ Kn Ed sy (Ed.sh hrc ez) hq3' fun v r H' F' s' E' rr q => k v r H' F' Γd (((s0.trans sc).trans sd).trans s') E' rr q
theorem de_chain {op op' : CmpOp} (p : P2 X.K r f) (p' : P2 X.K r' f') (ho : OpR X (compareOp op) r) (ho' : OpR X (compareOp op') r') (ha : DE X W a wa) (hb : DE X W b wb) (hc : DE X W c wc)
    (hm : lastMarks [op, op'] [b, c] = false := by with_unfolding_all rfl) : DE X W (.Compare a [op, op'] [b, c] pos) (wChain f f' wa wb wc) :=
  de_of (pe_chain ho ho' ha.pe hb.pe hc.pe hm) fun _ _ _ h => lift_chain p p' h
theorem dt_chain {op op' : CmpOp} (p : P2 X.K r f) (p' : P2 X.K r' f') (ho : OpR X (compareOp op) r) (ho' : OpR X (compareOp op') r') (ha : DE X W a wa) (hb : DE X W b wb) (hc : DE X W c wc)
    (hm : lastMarks [op, op'] [b, c] = false := by with_unfolding_all rfl) : DT X W (.Compare a [op, op'] [b, c] pos) (wB (wChain f f' wa wb wc)) :=
  ⟨(pt_chain ho ho' ha.pe hb.pe hc.pe hm).imp fun σ H Kn ⟨B, F, Γ, Q, Xq, E, hw, k, kx⟩ => lift_chain (Kn := fun x H' => ∃ k, x = .bl k ∧ Kn k H') p p' ⟨B, F, Γ, _, Xq, E, hw, fun v r H' F' Γ' s E' rr q => by
    obtain ⟨c, e1, q⟩ := q
    subst e1
    exact ⟨c, rr_bool rr, k c H' F' Γ' s E' q⟩, kx⟩⟩
end
end DL

namespace DL
open PySem L2
/-! ### -x -/
def wNeg (w : WE) : WE := fun Γ Q X => w Γ (fun r Γ1 => ∃ i, r = .d (.int i) ∧ Q (.d (.int (-i))) Γ1) X
theorem de_neg {X : Cx} {W : WX} {e : Expr} {w : WE} {pos : Pos} (he : DE X W e w) : DE X W (.UnaryOp .USub e pos) (wNeg w) :=
  de_of (pe_un un_neg he.pe) fun σ H Kn ⟨B, F, Γ, Q, Xq, E, hw, k, kx⟩ => ⟨B, F, Γ, _, Xq, E, hw, fun v r H' F' Γ' s E' rr q => by
    obtain ⟨i, e1, q⟩ := q
    subst e1
    exact ⟨i, rr, k _ (.d (.int (-i))) H' F' Γ' s E' rfl q⟩, kx⟩
end DL
namespace DL
open PySem PyProof.Rows
section
variable {prog : Program} {w : World} {A : Around} {E : Value → Shared → Prop} {s : Shared}
theorem collect_tup {l : Addr} {vs : List Value} {Q : List Value → Shared → Prop} (hl : IsTup s.heap l vs.toArray)
    (h : Q vs { s with heap := (s.heap.push (seqObj "list" #[] 0)).update s.heap.objs.size (Obj.mapSeq (· ++ vs.toArray)) }) (hsz : vs.length ≤ sizeLine) :
    wpAny (model prog w) A (collect (.ref l)) Q E s := by
  obtain ⟨o, ho, hc, n, hd⟩ := id hl
  unfold collect
  refine wpAny_bind (wpAny_runValue (codeAny_builtin entry_proto_collect' ?_))
  show wpAny _ _ (do again (.builtin "list.__iadd__" ⟨[← newList [], .ref l], []⟩)) _ _ s
  refine wpAny_bind (wpAny_newList (wpAny_pure ⟨Code.quiet_builtin _ (by decide +kernel), codeAny_builtin entry_list_iadd' ?_⟩))
  show wpAny _ _ (Builtin.List.listExtendWith (.ref s.heap.objs.size) (.ref l) (.ref s.heap.objs.size)) _ _ { s with heap := s.heap.push (seqObj "list" #[] 0) }
  unfold Builtin.List.listExtendWith
  have ho' : (s.heap.push (seqObj "list" #[] 0)).get? l = some o := Heap.get?_push_of_some _ ho
  refine wpAny_bind (wpAny_typeOf (T := "tuple") ⟨o, ho', hc⟩ ?_)
  have ht : (Value.type "tuple" == Value.type "tuple") = true := by rfl
  rw [if_pos (by rw [ht]; simp)]
  refine wpAny_bind (listItems_at ho' hd ?_)
  refine wpAny_bind (listItems_at (xs := #[]) (n := 0) (Heap.get?_push_size _ rfl) rfl ?_)
  rw [if_neg (by simp)]
  refine wpAny_bind (listUpdate_at (xs := #[]) (n := 0) (Heap.get?_push_size _ rfl) rfl ?_ (Nat.zero_le _) (by show (#[] ++ vs.toArray).size ≤ sizeLine + 1; simp only [Array.size_append, List.size_toArray, List.length_nil]; omega))
  refine wpAny_pure ?_
  show wpAny (model prog w) A (do
      let o ← load s.heap.objs.size
      match o.data with
      | .seq xs _ => pure xs.toList
      | _ => unsupported "internal:collect") Q E { s with heap := (s.heap.push (seqObj "list" #[] 0)).update s.heap.objs.size (Obj.mapSeq (· ++ vs.toArray)) }
  refine wpAny_bind (wpAny_load (get?_update_seq (Heap.get?_push_size _ rfl) _) ?_)
  show wpAny _ _ (pure ((#[] : Array Value) ++ vs.toArray).toList) Q E _
  rw [show ((#[] : Array Value) ++ vs.toArray).toList = vs by simp]
  exact wpAny_pure h
theorem sorted_strsTup {l : Addr} {vs : List Value} {ss : List Str} {Q : Value → Shared → Prop} (hl : IsTup s.heap l vs.toArray) (hS : StrsAre vs ss) (hL : vs.length ≤ sizeLine)
    (h : ∀ (out : Array Value) (ss' : List Str), StrsAre out.toList ss' → ss'.Perm ss → sortedS ss' = true → Q (.ref (s.heap.objs.size + 1)) { s with heap := sortedAll s.heap vs out }) :
    wpAny (model prog w) A (call (.builtin "sorted") [.ref l]) Q E s := by
  refine Calls.call_function_entry kind_sorted plain_sorted entry_sorted (args_sorted1 _) ?_
  unfold Builtin.«sorted»
  refine wpAny_bind (m := checkCount "sorted" 1 1 _) (wpAny_pure ?_)
  refine wpAny_bind (collect_tup hl ?_ hL)
  refine wpAny_bind (wpAny_newList ?_)
  have hsz : ((s.heap.push (seqObj "list" #[] 0)).update s.heap.objs.size (Obj.mapSeq (· ++ vs.toArray))).objs.size = s.heap.objs.size + 1 := by
    rw [Heap.size_update, size_push']
  have hoL : (((s.heap.push (seqObj "list" #[] 0)).update s.heap.objs.size (Obj.mapSeq (· ++ vs.toArray))).push (seqObj "list" vs.toArray 0)).get? (s.heap.objs.size + 1) = some (seqObj "list" vs.toArray 0) := by
    rw [← hsz]; exact Heap.get?_push_size _ rfl
  show wpAny _ _ _ _ _ { s with heap := ((s.heap.push (seqObj "list" #[] 0)).update s.heap.objs.size (Obj.mapSeq (· ++ vs.toArray))).push (seqObj "list" vs.toArray 0) }
  rw [hsz]
  refine wpAny_bind (wpAny_holding (wpAny_call_entry slot_list_sort ⟨_, hoL, rfl⟩ entry_list_sort (list_sort_treeKAny strKind_oneLt hoL hS.keysOf (fun v₁ v₂ rest e => keyKind_strs (by rw [← e]; exact hS)) hL fun st' a1 a2 => ⟨_, rfl, ?_⟩) (args_list_sort _)))
  obtain ⟨ss', h1, h2, h3⟩ := sorted_out_str hS a1 a2
  exact wpAny_pure ⟨_, rfl, h _ ss' h1 h2 h3⟩
end
end DL
namespace DL
open PySem L2
def fSorted : FL := fun xs Q => match xs with
  | [.list l] => ∃ ys, strsD l = some ys ∧ ∀ zs : List Str, zs.Perm ys → PyProof.Rows.sortedS zs = true → Q (.o (zs.map .str))
  | [.tuple l] => ∃ ys, strsD l = some ys ∧ ∀ zs : List Str, zs.Perm ys → PyProof.Rows.sortedS zs = true → Q (.o (zs.map .str))
  | _ => False
def rSortedU (K : PySem.W.Frag) : List V → Hp → VK → Prop := fun vs H Q => ∃ (a : Addr) (xs : List Str), vs = [V.ref a] ∧ (SqL K H a (xs.map V.str) ∨ SqT K H a (xs.map V.str)) ∧
  ∀ (ys : List Str) (p : Addr), ys.Perm xs → PyProof.Rows.sortedS ys = true → H p = none → Q (.ref p) (upd H p (.lst (ys.map V.str)))
theorem call_sortedU {X : Cx} : CallR X (.builtin "sorted") (rSortedU X.K) := by
  intro pins s σ H vs us Q I r h
  obtain ⟨a, xs, rfl, hs, q⟩ := h
  rw [Vals.ref1 r]
  rcases hs with hs | hs
  · obtain ⟨its, rv, hl, hz⟩ := I.list hs
    have hlen0 := rv.length
    refine PyProof.Rows.sorted_strsAny hl.isList rv.strs (by rw [← hlen0]; exact hz) fun out ys h1 h2 h3 => ?_
    obtain ⟨ep, he'⟩ := PyProof.Rows.sortedAll_at s.heap its out
    have hlen : (ys.map V.str).length ≤ sizeLine := by rw [List.length_map, h2.length_eq]; rw [List.length_map] at hz; exact hz
    exact ⟨.ref _, upd H (s.heap.objs.size + 1) (.lst (ys.map V.str)), I.laid (t' := s.toks) (fun _ _ => PyProof.Rows.sortedAll_old) (Nat.le_succ _) ⟨hlen, out.toList, ep, vals_of_strs h1, he'⟩, rfl, q ys _ h2 h3 (I.hok.fresh (Nat.le_succ _))⟩
  · obtain ⟨its, rv, hl, hz⟩ := I.tuple hs
    have hlen0 := rv.length
    refine sorted_strsTup hl rv.strs (by rw [← hlen0]; exact hz) fun out ys h1 h2 h3 => ?_
    obtain ⟨ep, he'⟩ := PyProof.Rows.sortedAll_at s.heap its out
    have hlen : (ys.map V.str).length ≤ sizeLine := by rw [List.length_map, h2.length_eq]; rw [List.length_map] at hz; exact hz
    exact ⟨.ref _, upd H (s.heap.objs.size + 1) (.lst (ys.map V.str)), I.laid (t' := s.toks) (fun _ _ => PyProof.Rows.sortedAll_old) (Nat.le_succ _) ⟨hlen, out.toList, ep, vals_of_strs h1, he'⟩, rfl, q ys _ h2 h3 (I.hok.fresh (Nat.le_succ _))⟩
theorem p_sorted {K : PySem.W.Frag} : PL K (rSortedU K) fSorted := fun B F H σ Γ vs xs Q Kn E h hf k => by
  unfold fSorted at hf
  split at hf
  · rename_i l
    obtain ⟨ys, ey, q⟩ := hf
    obtain ⟨v, e, a, ws, e1, h1, h2⟩ := h.one
    subst e1
    rw [strs_reps h2 ey] at h1
    exact ⟨a, ys, e, .inl h1, fun zs p pm so hp => k _ (.o (zs.map .str)) _ F (Same.id F) (E.layH hp) (rr_new E hp (reps_strs zs)) (q zs pm so)⟩
  · rename_i l
    obtain ⟨ys, ey, q⟩ := hf
    obtain ⟨v, e, a, ws, e1, h1, h2⟩ := h.one
    subst e1
    rw [strs_reps h2 ey] at h1
    exact ⟨a, ys, e, .inr (sqt_mono E.ex h1), fun zs p pm so hp => k _ (.o (zs.map .str)) _ F (Same.id F) (E.layH hp) (rr_new E hp (reps_strs zs)) (q zs pm so)⟩
  · exact hf.elim
end DL

/-! sets of texts: made of a list or tuple, sorted -/
namespace DL
open PySem PySem.Spec PyProof.Rows PySem.Froz
/-- a set's table that rises and may be walked -/
def Wlk (w : World) (t : SetTable) : Prop := L2.Ris t.place.toList ∧ (w.params.followText "set-order" = true ∨ t.led = true)
theorem wlk_off {w : World} {t : SetTable} (h : Wlk w t) : Wlk w { t with plain := false } := h
theorem wlk_tail {w : World} {t : SetTable} {ep : Nat} {es : Array (Int × Value)} {d : Bool} (h : Wlk w t) : Wlk w (tailTx ep es t d).2.2 := by
  unfold tailTx
  by_cases c : (!d && t.tooFull) = true
  · rw [if_pos c]
    exact ⟨L2.relayAll_ris t es _, h.2.imp id fun z => by rw [L2.relayAll_led]; exact z⟩
  · rw [if_neg c]
    exact h
theorem wlk_add {w : World} {D : SD} {k : Int} {v : Value} (h : Wlk w D.2.2) : Wlk w (addTx k v D).2.2 := by
  have h1 : Wlk w (layNew D.2.2 D.1 k v).2.1 := ⟨L2.layNew_ris D.2.2 D.1 k v h.1, h.2.imp id fun z => by rw [L2.layNew_led]; exact z⟩
  unfold addTx
  by_cases c : (layNew D.2.2 D.1 k v).2.1.plain = true
  · rw [if_pos c]; exact wlk_tail (wlk_off h1)
  · rw [if_neg c]; exact wlk_tail h1
/-- the set of the texts l, each once, stands at a -/
def TxS (P : Program) (w : World) (h : Heap) (a : Addr) (l : List Str) : Prop := ∃ D : SD, h.get? a = some (sObj "set" D) ∧ TxOk P w D l ∧ l.Nodup ∧ Wlk w D.2.2
theorem TxS.at {P : Program} {w : World} {h h' : Heap} {a : Addr} {l : List Str} (R : TxS P w h a l) (k : ∀ o, h.get? a = some o → h'.get? a = some o) : TxS P w h' a l := by
  obtain ⟨D, ho, r⟩ := R
  exact ⟨D, k _ ho, r⟩
section
variable {P : Program} {w : World} {A : Around} {E : Value → Shared → Prop} {s : Shared}
/-- the add of a text that is in it -/
theorem dup_x {a : Addr} {D : SD} {l : List Str} {k : Str} {u : Tok} {Q : Bool → Shared → Prop} (ho : s.heap.get? a = some (sObj "set" D)) (F : TxOk P w D l) (hk : k ∈ l) (hb : l.length < scanBound) (h : Q false s) :
    wpAny (model P w) A (setAddHashed a (.str k u) (hashStr w k)) Q E s := by
  obtain ⟨es, ep, t⟩ := D
  have hd : (sObj "set" (es, ep, t)).data = .set es ep t := rfl
  have fit : t.fits es.size = true := F.fit
  have el : ElemsOf (strKind P w) es.toList := F.el
  have len : es.size = l.length := F.sz
  have own : (strKind P w).is k (.str k u) = true := is_str k u
  unfold setAddHashed setAddHashedIn
  refine wpAny_holding (wpAny_bind (wpAny_setState_of ho hd fit ?_))
  dsimp only
  rw [byScan_of rfl (by omega) el]
  simp only [↓reduceIte]
  unfold setAddByScan
  refine wpAny_bind (wpAny_bind (wpAny_rule (wpAny_bind (wpAny_setScan_of (knd := strKind P w) (k := k) own ho hd fit el ?_))))
  cases q : List.findIdx? (fun e => (strKind P w).is k e.2) es.toList with
  | some j => dsimp only; exact wpAny_pure (wpAny_pure h)
  | none =>
    obtain ⟨e, he, z⟩ := (F.mem k).mp hk
    have := List.findIdx?_eq_none_iff.mp q e he
    rw [z] at this
    cases this
theorem add_any {a : Addr} {l : List Str} {k : Str} {u : Tok} {Q : Bool → Shared → Prop} (R : TxS P w s.heap a l) (hb : l.length + 1 < scanBound)
    (h : ∀ (h' : Heap) (l' : List Str) (b : Bool), (∀ c o, c ≠ a → s.heap.get? c = some o → h'.get? c = some o) → s.heap.objs.size = h'.objs.size → TxS P w h' a l' → (∀ z, z ∈ l' ↔ z = k ∨ z ∈ l) → l'.length ≤ l.length + 1 → Q b { s with heap := h' }) :
    wpAny (model P w) A (setAddHashed a (.str k u) (hashStr w k)) Q E s := by
  obtain ⟨D, ho, F, nd, wk⟩ := R
  by_cases hk : k ∈ l
  · exact dup_x ho F hk (by omega) (h s.heap l false (fun _ _ _ z => z) rfl ⟨D, ho, F, nd, wk⟩ (fun z => ⟨.inr, fun q => q.elim (fun e => e ▸ hk) id⟩) (by omega))
  · refine add_x ho F hk hb (h _ (k :: l) true (fun c o hc z => PySem.Heap.get?_update_of_ne _ (Ne.symm hc) z) (by rw [Heap.size_update]) ⟨_, get_upd _ ho rfl, add_ok u F, List.nodup_cons.mpr ⟨hk, nd⟩, wlk_add wk⟩ (fun z => List.mem_cons) (by simp))
end
end DL

namespace DL
open PySem PySem.Spec PyProof.Rows PySem.Froz
section
variable {P : Program} {w : World} {A : Around} {E : Value → Shared → Prop} {s : Shared}
/-- the loop of set(..) over texts -/
theorem fill_txs {I : Addr} {fp wr : List Addr} {G : Array GenState → Array GenState → Prop} {n : Nat} {Pv : Nat → Value → Prop} {St : Nat → Shared → Prop} {R : Result → Shared → Prop}
    (Wk : WalksS P w A.in1 I fp wr G n Pv St) (a : Addr) (away : a ∉ fp) (ks : List Str) (en : n = ks.length) (hb : ks.length + 1 < scanBound) (val : ∀ i v, Pv i v → ∃ k t, ks[i]? = some k ∧ v = .str k t)
    (done : ∀ s' l, Moved (a :: wr) G s s' → TxS P w s'.heap a l → (∀ z, z ∈ l ↔ z ∈ ks) → l.length ≤ ks.length → R (.ok (.ret .none)) s') :
    ∀ (m i : Nat) (s1 : Shared), n - i = m → i ≤ n → St i s1 → Moved (a :: wr) G s s1 → (∃ l, TxS P w s1.heap a l ∧ (∀ z, z ∈ l ↔ z ∈ ks.take i) ∧ l.length ≤ i) → codeAny (model P w) A (.builtin "set.update.loop" ⟨[.ref a, .ref I], []⟩) R s1 := by
  have out : a ∉ wr := fun z => away (Wk.sub _ z)
  have more : ∀ b ∈ wr, b ∈ a :: wr := fun b z => List.mem_cons_of_mem _ z
  intro m
  induction m with
  | zero =>
    intro i s1 em hi st mv ⟨l, R1, hm, hl⟩
    have ei : i = n := by omega
    refine codeAny_builtin F.entry_set_update_loop ?_
    rw [Around.under_plainId F.plain_set_update_loop _]
    show wpAny _ A.in1 (do let x ← pyNext (.ref I); _) _ _ s1
    refine wpAny_bind (Wk.done s1 _ _ (ei ▸ st) fun s2 m2 => ?_)
    have et : ks.take i = ks := List.take_of_length_le (by omega)
    rw [et] at hm
    exact wpAny_pure (done s2 l (Moved.trans Wk.gtrans mv (m2.mono more)) (R1.at fun o z => m2.heap a o out z) hm (by omega))
  | succ m ih =>
    intro i s1 em hi st mv ⟨l, R1, hm, hl⟩
    have hlt : i < n := by omega
    refine codeAny_builtin F.entry_set_update_loop ?_
    rw [Around.under_plainId F.plain_set_update_loop _]
    show wpAny _ A.in1 (do let x ← pyNext (.ref I); _) _ _ s1
    refine wpAny_bind (Wk.item i s1 _ _ hlt st fun v s2 hv st2 m2 => ?_)
    obtain ⟨k, t, hk, rfl⟩ := val i v hv
    have R2 : TxS P w s2.heap a l := R1.at fun o z => m2.heap a o out z
    show wpAny _ A.in1 (do let b ← holding [Value.str k t] (setAdd a (.str k t)); _) _ _ s2
    refine wpAny_bind (wpAny_holding ?_)
    unfold setAdd
    refine wpAny_holding (wpAny_bind ((strKind P w).pyHash (k := k) (is_str _ _) ?_))
    refine add_any (s := { s2 with toks := s2.toks + 1 }) R2 (by omega) fun h' l' b keep sz R3 mem3 len3 => ?_
    have m3 : Moved (a :: wr) G s1 { s2 with heap := h', toks := s2.toks + 1 } := (m2.mono more).then_heap (Nat.le_succ _) fun c o hc z => keep c o (fun q => hc (by rw [q]; exact List.mem_cons_self)) z
    refine wpAny_pure ⟨plainId_quiet F.plain_set_update_loop _, ih (i + 1) _ (by omega) hlt (Wk.frame _ s2 _ _ st2 (Nat.le_succ _) fun c hc o z => keep c o (fun q => away (by rw [← q]; exact hc)) z) (Moved.trans Wk.gtrans mv m3) ⟨l', R3, fun z => ?_, by omega⟩⟩
    rw [mem3, hm, List.take_add_one, hk]
    simp only [Option.toList_some, List.mem_append, List.mem_singleton]
    exact Or.comm
/-- an iterator over a list or a tuple -/
theorem iter_seq {l : Addr} {items : Array Value} {Q : Value → Shared → Prop} (hl : s.heap.IsTuple l items ∨ s.heap.IsList l items)
    (h : ∀ (o : Obj) (St : Nat → Heap → Prop), (∀ A' : Around, A'.handled = none → PySem.Walks P w A' s.heap.objs.size [s.heap.objs.size, l] [s.heap.objs.size] items.size (fun i v => items[i]? = some v) St) → St 0 (s.heap.push o) → Q (.ref s.heap.objs.size) { s with heap := s.heap.push o }) :
    wpAny (model P w) A (pyIter (.ref l)) Q E s := by
  have hne : ∀ o : Obj, s.heap.get? l = some o → l ≠ s.heap.objs.size := fun o e => Nat.ne_of_lt (Heap.lt_size e)
  rcases hl with hl | hl
  · have q := hl
    obtain ⟨o, ho, _⟩ := hl
    exact wpAny_pyIter_tuple q (h _ _ (fun A' hh => PySem.Walks.tuple hh _ l (hne o ho) items) ⟨⟨_, Heap.get?_push_size _ rfl, rfl, rfl⟩, q.push _⟩)
  · have q := hl
    obtain ⟨o, ho, _⟩ := hl
    exact wpAny_pyIter_list q (h _ _ (fun A' hh => PySem.Walks.list hh _ l (hne o ho) items) ⟨⟨_, Heap.get?_push_size _ rfl, rfl, rfl⟩, q.push _⟩)
end
end DL

namespace DL
open PySem PySem.Spec PyProof.Rows PySem.Froz
abbrev bareS (w : World) : Obj := { cls := .type "set", dict := none, data := .set #[] 0 (.fresh 0 0 (!w.params.followText "set-order")) }
theorem bare_txs {P : Program} {w : World} {h : Heap} {a : Addr} (ho : h.get? a = some (bareS w)) : TxS P w h a [] :=
  ⟨(#[], 0, .fresh 0 0 (!w.params.followText "set-order")), ho, TxOk.nil rfl, List.nodup_nil, List.Pairwise.nil, by
    show _ ∨ (!w.params.followText "set-order") = true
    cases w.params.followText "set-order" <;> simp⟩
theorem strs_nth : ∀ {vs : List Value} {ks : List Str} {i : Nat} {v : Value}, StrsAre vs ks → vs[i]? = some v → ∃ k t, ks[i]? = some k ∧ v = .str k t
  | _, _, _, _, .nil, h => by simp at h
  | _, _, 0, _, .cons x t r, h => by
    simp only [List.getElem?_cons_zero, Option.some.injEq] at h
    exact ⟨x, t, rfl, h.symm⟩
  | _, _, i + 1, _, .cons x t r, h => by
    simp only [List.getElem?_cons_succ] at h ⊢
    exact strs_nth r h
section
variable {P : Program} {w : World} {A : Around} {E : Value → Shared → Prop} {s : Shared}
/-- set(l) of a tuple of texts -/
theorem call_set_tx {l : Addr} {items : Array Value} (ks : List Str) {Q : Value → Shared → Prop} (hh : A.handled = none) (hl : s.heap.IsTuple l items) (hv : StrsAre items.toList ks) (hb : ks.length + 1 < scanBound)
    (h : ∀ (h' : Heap) (tk : Nat) (m : List Str), TxS P w h' s.heap.objs.size m → (∀ z, z ∈ m ↔ z ∈ ks) → m.length ≤ ks.length → (∀ b o, s.heap.get? b = some o → h'.get? b = some o) → Q (.ref s.heap.objs.size) { s with heap := h', toks := tk }) :
    wpAny (model P w) A (call (.type "set") [.ref l]) Q E s := by
  have size : items.size = ks.length := by have q := StrsAre.length hv; rwa [Array.length_toList] at q
  obtain ⟨c, tl, hmro⟩ := F.called_set.mro
  have hmade := F.called_set.made
  have hsub := F.called_set.sub
  refine wpAny_call (codeAny_of_tree ?_)
  show wpAny _ _ (callAny (.type "set") _) _ _ _
  refine wpAny_pure ⟨Code.quiet_builtin _ (by decide +kernel), codeAny_builtin F.entry_type_call ?_⟩
  rw [Around.under_plain (weight_type_call_type "set" [.ref l] []) rfl]
  have h1 := F.called_set.notType
  have h2 := F.called_set.canCreate
  have hct := F.typeCall_set_1 (.ref l)
  repeat (any_goals (first | assumption | wp_step))
  refine codeAny_mono (L2.code_set_led1 (.ref l) (E := E) (Q₁ := fun obj s1 => obj = .ref s.heap.objs.size ∧ s1 = { s with heap := s.heap.push (bareS w) }) ⟨rfl, rfl⟩) fun r s1 hr => ?_
  cases r with
  | error e => exact hr
  | ok fl =>
    cases fl with
    | ret obj =>
      obtain ⟨rfl, rfl⟩ := hr
      have hS : (s.heap.push (bareS w)).get? s.heap.objs.size = some (bareS w) := Heap.get?_push_size _ rfl
      have hT : Shared.TypeIs { s with heap := s.heap.push (bareS w) } (.ref s.heap.objs.size) "set" := ⟨_, hS, rfl⟩
      have hli := F.called_set.init.lookup
      have hbi := F.called_set.init.bind (.ref s.heap.objs.size)
      repeat (any_goals (first | assumption | wp_step))
      refine codeAny_mono (codeAny_call_builtin (R := wants (fun r s2 => r = .none ∧ ∃ h' tk m, s2 = { s with heap := h', toks := tk } ∧ TxS P w h' s.heap.objs.size m ∧ (∀ z, z ∈ m ↔ z ∈ ks) ∧ m.length ≤ ks.length ∧ (∀ b o, s.heap.get? b = some o → h'.get? b = some o)) E)
        F.called_set.init.plain F.entry_set_init (check_set_init_1 hT ?_)) fun r2 s2 hr2 => ?_
      · have hlS : l < s.heap.objs.size := by obtain ⟨o, ho, _⟩ := hl; exact Heap.lt_size ho
        have hl1 : (s.heap.push (bareS w)).IsTuple l items := hl.push _
        obtain ⟨ol, hol, hcl, nl, hdl⟩ := hl
        obtain ⟨ocls, odict, odata, oslots⟩ := ol
        simp only at hcl hdl
        subst hcl; subst hdl
        have hol' : (s.heap.push (bareS w)).get? l = some { cls := .type "tuple", dict := odict, data := .seq items nl, slots := oslots } := Heap.get?_push_of_some _ hol
        have hsls := F.sub_tuple_set
        have hslf := F.sub_tuple_frozenset
        have hne : (Value.type "tuple" == Value.type "dict") = false := by decide
        unfold Builtin.«set.__init__» noKeywords Builtin.Frozenset.updateFrom
        generalize hPI : pyIter = PI
        wp_walk
        subst hPI
        refine iter_seq (.inl hl1) fun io St wk st0 => ?_
        refine wpAny_bind (wpAny_runValue ?_)
        have hn3 : A.in1.in1.in1.handled = none := by simp [hh]
        have sz1 : (s.heap.push (bareS w)).objs.size = s.heap.objs.size + 1 := Heap.size_push ..
        refine fill_txs (s := { s with heap := (s.heap.push (bareS w)).push io }) ((wk _ hn3).toS) s.heap.objs.size ?_ ks size hb (fun i v hiv => ?_) ?_ (items.size - 0) 0 _ (by omega) (Nat.zero_le _) st0 ?_ ⟨[], bare_txs (Heap.get?_push_of_some _ hS), by simp, by simp⟩
        · intro q
          rcases List.mem_cons.mp q with q | q
          · exact absurd (q.trans sz1) (Nat.ne_of_lt (Nat.lt_succ_self _))
          · exact absurd (List.mem_singleton.mp q) (Nat.ne_of_gt hlS)
        · exact strs_nth hv (by rw [Array.getElem?_toList]; exact hiv)
        · intro s' m mv R1 mem len
          obtain ⟨h', g2, d', tk', os'⟩ := s'
          have eg : g2 = s.gens := mv.gens
          have ed : d' = s.drawn := mv.drawn
          have eo : os' = s.os := mv.os
          subst eg; subst ed; subst eo
          show wpAny _ _ _ _ _ _
          refine wpAny_pure ?_
          show wpAny _ _ (ret Value.none) _ _ _
          refine wpAny_pure ⟨rfl, h', tk', m, rfl, R1, mem, len, fun b o e => ?_⟩
          have b0 : b < s.heap.objs.size := Heap.lt_size e
          refine mv.heap b o (fun q => ?_) (Heap.get?_push_of_some _ (Heap.get?_push_of_some _ e))
          rcases List.mem_cons.mp q with q | q
          · exact absurd q (Nat.ne_of_lt b0)
          · exact absurd ((List.mem_singleton.mp q).trans sz1) (Nat.ne_of_lt (Nat.lt_succ_of_lt b0))
        · exact ⟨fun _ _ _ z => z, rfl, rfl, rfl, Nat.le_refl _⟩
      · cases r2 with
        | error e => exact hr2
        | ok fl2 =>
          cases fl2 with
          | ret r =>
            obtain ⟨rfl, h', tk, m, rfl, a1, a2, a3, a4⟩ := hr2
            repeat (any_goals (first | assumption | wp_step))
            exact h _ _ _ a1 a2 a3 a4
          | _ => exact hr2.elim
    | _ => exact hr.elim
end
end DL

namespace DL
open PySem PySem.Spec PyProof.Rows PySem.Froz
section
variable {P : Program} {w : World} {A : Around} {E : Value → Shared → Prop} {s : Shared}
/-- set(l) of a list of texts -/
theorem call_set_txL {l : Addr} {items : Array Value} (ks : List Str) {Q : Value → Shared → Prop} (hh : A.handled = none) (hl : s.heap.IsList l items) (hv : StrsAre items.toList ks) (hb : ks.length + 1 < scanBound)
    (h : ∀ (h' : Heap) (tk : Nat) (m : List Str), TxS P w h' s.heap.objs.size m → (∀ z, z ∈ m ↔ z ∈ ks) → m.length ≤ ks.length → (∀ b o, s.heap.get? b = some o → h'.get? b = some o) → Q (.ref s.heap.objs.size) { s with heap := h', toks := tk }) :
    wpAny (model P w) A (call (.type "set") [.ref l]) Q E s := by
  have size : items.size = ks.length := by have q := StrsAre.length hv; rwa [Array.length_toList] at q
  obtain ⟨c, tl, hmro⟩ := F.called_set.mro
  have hmade := F.called_set.made
  have hsub := F.called_set.sub
  refine wpAny_call (codeAny_of_tree ?_)
  show wpAny _ _ (callAny (.type "set") _) _ _ _
  refine wpAny_pure ⟨Code.quiet_builtin _ (by decide +kernel), codeAny_builtin F.entry_type_call ?_⟩
  rw [Around.under_plain (weight_type_call_type "set" [.ref l] []) rfl]
  have h1 := F.called_set.notType
  have h2 := F.called_set.canCreate
  have hct := F.typeCall_set_1 (.ref l)
  repeat (any_goals (first | assumption | wp_step))
  refine codeAny_mono (L2.code_set_led1 (.ref l) (E := E) (Q₁ := fun obj s1 => obj = .ref s.heap.objs.size ∧ s1 = { s with heap := s.heap.push (bareS w) }) ⟨rfl, rfl⟩) fun r s1 hr => ?_
  cases r with
  | error e => exact hr
  | ok fl =>
    cases fl with
    | ret obj =>
      obtain ⟨rfl, rfl⟩ := hr
      have hS : (s.heap.push (bareS w)).get? s.heap.objs.size = some (bareS w) := Heap.get?_push_size _ rfl
      have hT : Shared.TypeIs { s with heap := s.heap.push (bareS w) } (.ref s.heap.objs.size) "set" := ⟨_, hS, rfl⟩
      have hli := F.called_set.init.lookup
      have hbi := F.called_set.init.bind (.ref s.heap.objs.size)
      repeat (any_goals (first | assumption | wp_step))
      refine codeAny_mono (codeAny_call_builtin (R := wants (fun r s2 => r = .none ∧ ∃ h' tk m, s2 = { s with heap := h', toks := tk } ∧ TxS P w h' s.heap.objs.size m ∧ (∀ z, z ∈ m ↔ z ∈ ks) ∧ m.length ≤ ks.length ∧ (∀ b o, s.heap.get? b = some o → h'.get? b = some o)) E)
        F.called_set.init.plain F.entry_set_init (check_set_init_1 hT ?_)) fun r2 s2 hr2 => ?_
      · have hlS : l < s.heap.objs.size := by obtain ⟨o, ho, _⟩ := hl; exact Heap.lt_size ho
        have hl1 : (s.heap.push (bareS w)).IsList l items := hl.push _
        obtain ⟨ol, hol, hcl, nl, hdl⟩ := hl
        obtain ⟨ocls, odict, odata, oslots⟩ := ol
        simp only at hcl hdl
        subst hcl; subst hdl
        have hol' : (s.heap.push (bareS w)).get? l = some { cls := .type "list", dict := odict, data := .seq items nl, slots := oslots } := Heap.get?_push_of_some _ hol
        have hsls := F.sub_list_set
        have hslf := F.sub_list_frozenset
        have hne : (Value.type "list" == Value.type "dict") = false := by decide
        unfold Builtin.«set.__init__» noKeywords Builtin.Frozenset.updateFrom
        generalize hPI : pyIter = PI
        wp_walk
        subst hPI
        refine iter_seq (.inr hl1) fun io St wk st0 => ?_
        refine wpAny_bind (wpAny_runValue ?_)
        have hn3 : A.in1.in1.in1.handled = none := by simp [hh]
        have sz1 : (s.heap.push (bareS w)).objs.size = s.heap.objs.size + 1 := Heap.size_push ..
        refine fill_txs (s := { s with heap := (s.heap.push (bareS w)).push io }) ((wk _ hn3).toS) s.heap.objs.size ?_ ks size hb (fun i v hiv => ?_) ?_ (items.size - 0) 0 _ (by omega) (Nat.zero_le _) st0 ?_ ⟨[], bare_txs (Heap.get?_push_of_some _ hS), by simp, by simp⟩
        · intro q
          rcases List.mem_cons.mp q with q | q
          · exact absurd (q.trans sz1) (Nat.ne_of_lt (Nat.lt_succ_self _))
          · exact absurd (List.mem_singleton.mp q) (Nat.ne_of_gt hlS)
        · exact strs_nth hv (by rw [Array.getElem?_toList]; exact hiv)
        · intro s' m mv R1 mem len
          obtain ⟨h', g2, d', tk', os'⟩ := s'
          have eg : g2 = s.gens := mv.gens
          have ed : d' = s.drawn := mv.drawn
          have eo : os' = s.os := mv.os
          subst eg; subst ed; subst eo
          show wpAny _ _ _ _ _ _
          refine wpAny_pure ?_
          show wpAny _ _ (ret Value.none) _ _ _
          refine wpAny_pure ⟨rfl, h', tk', m, rfl, R1, mem, len, fun b o e => ?_⟩
          have b0 : b < s.heap.objs.size := Heap.lt_size e
          refine mv.heap b o (fun q => ?_) (Heap.get?_push_of_some _ (Heap.get?_push_of_some _ e))
          rcases List.mem_cons.mp q with q | q
          · exact absurd q (Nat.ne_of_lt b0)
          · exact absurd ((List.mem_singleton.mp q).trans sz1) (Nat.ne_of_lt (Nat.lt_succ_of_lt b0))
        · exact ⟨fun _ _ _ z => z, rfl, rfl, rfl, Nat.le_refl _⟩
      · cases r2 with
        | error e => exact hr2
        | ok fl2 =>
          cases fl2 with
          | ret r =>
            obtain ⟨rfl, h', tk, m, rfl, a1, a2, a3, a4⟩ := hr2
            repeat (any_goals (first | assumption | wp_step))
            exact h _ _ _ a1 a2 a3 a4
          | _ => exact hr2.elim
    | _ => exact hr.elim
end
end DL

namespace DL
open PySem PySem.Spec PyProof.Rows PySem.Froz
section
variable {P : Program} {w : World} {A : Around} {E : Value → Shared → Prop} {s : Shared}
theorem strsAre_of : ∀ (vs : List Value), (∀ v ∈ vs, ∃ k t, v = Value.str k t) → ∃ ks, StrsAre vs ks
  | [], _ => ⟨[], .nil⟩
  | v :: vs, h => by
    obtain ⟨k, t, rfl⟩ := h v (List.mem_cons_self ..)
    obtain ⟨ks, r⟩ := strsAre_of vs fun u hu => h u (List.mem_cons_of_mem _ hu)
    exact ⟨k :: ks, .cons k t r⟩
def keyV (v : Value) : Str := match v with
  | .str k _ => k
  | _ => Str.empty
theorem strsAre_key : ∀ {vs : List Value} {ks : List Str}, StrsAre vs ks → ks = vs.map keyV
  | _, _, .nil => rfl
  | _, _, .cons k t r => by rw [List.map_cons, ← strsAre_key r]; rfl
theorem txok_keys {D : SD} {l : List Str} (F : TxOk P w D l) : (∀ e ∈ D.1.toList, ∃ k t, e.2 = Value.str k t) ∧ ∀ k, k ∈ l ↔ k ∈ D.1.toList.map fun e => keyV e.2 := by
  have h1 : ∀ e ∈ D.1.toList, ∃ k t, e.2 = Value.str k t := fun e he => by
    obtain ⟨⟨k, hk, _⟩, _⟩ := F.el e he
    obtain ⟨t, ht⟩ := Value.isStrOf_shape hk
    exact ⟨k, t, ht⟩
  refine ⟨h1, fun k => (F.mem k).trans ?_⟩
  rw [List.mem_map]
  constructor
  · rintro ⟨e, he, q⟩
    obtain ⟨t, ht⟩ := Value.isStrOf_shape q
    exact ⟨e, he, by rw [ht]; rfl⟩
  · rintro ⟨e, he, q⟩
    obtain ⟨k', t, ht⟩ := h1 e he
    refine ⟨e, he, ?_⟩
    rw [ht] at q ⊢
    have : k' = k := q
    rw [this]
    exact is_str k t
/-- sorted(s) of a set of texts -/
theorem sorted_tx {a : Addr} {l : List Str} {Q : Value → Shared → Prop} (R : TxS P w s.heap a l) (hh : A.handled = none) (hb : l.length < scanBound)
    (hQ : ∀ s' p (out : Array Value) (c : Nat) (ns : List Str), (∀ b o, s.heap.get? b = some o → s'.heap.get? b = some o) → s'.gens = s.gens → s'.os = s.os → s.heap.objs.size ≤ p →
      s'.heap.get? p = some (seqObj "list" out c) → StrsAre out.toList ns → sortedS ns = true → ns.length = l.length → (∀ k, k ∈ ns ↔ k ∈ l) → Q (.ref p) s') :
    wpAny (model P w) A (call (.builtin "sorted") [.ref a]) Q E s := by
  obtain ⟨⟨es, ep, t⟩, ho, F, nd, wk⟩ := R
  obtain ⟨hstr, hmem⟩ := txok_keys F
  have len : es.size = l.length := F.sz
  refine Calls.call_function_entry kind_sorted plain_sorted entry_sorted (args_sorted1 _) ?_
  unfold Builtin.«sorted»
  refine wpAny_bind (m := checkCount "sorted" 1 1 _) (wpAny_pure ?_)
  refine wpAny_bind (L2.collect_set (A := A.in1) hh ⟨_, ho, rfl, rfl⟩ F.fit (show es.size < scanBound by omega) wk.1 wk.2 fun s1 vs k1 hz g1 o1 pm => ?_)
  have lv : vs.length = l.length := by rw [pm.length_eq, List.length_map, Array.length_toList]; exact len
  obtain ⟨ks, hks⟩ := strsAre_of vs fun v hv => by
    obtain ⟨e, he, q⟩ := List.mem_map.mp (pm.mem_iff.mp hv)
    obtain ⟨k, t, h⟩ := hstr e he
    exact ⟨k, t, by rw [← q]; exact h⟩
  have ek := strsAre_key hks
  have pk : ∀ k, k ∈ ks ↔ k ∈ l := fun k => by
    rw [hmem k, ek, (pm.map keyV).mem_iff, List.map_map]
    rfl
  have hL : vs.length ≤ sizeLine := by rw [lv]; exact Nat.le_of_lt (Nat.lt_of_lt_of_le hb (by decide))
  refine wpAny_bind (wpAny_newList ?_ hL)
  have hoL : (s1.heap.push (seqObj "list" vs.toArray 0)).get? s1.heap.objs.size = some (seqObj "list" vs.toArray 0) := Heap.get?_push_size _ rfl
  refine wpAny_bind (wpAny_holding (wpAny_call_entry slot_list_sort ⟨_, hoL, rfl⟩ entry_list_sort (list_sort_treeKAny strKind_oneLt hoL hks.keysOf (fun v₁ v₂ rest e => keyKind_strs (by rw [← e]; exact hks)) hL fun st' a1 a2 => ⟨_, rfl, ?_⟩) (args_list_sort _)))
  obtain ⟨ss', h1, h2, h3⟩ := sorted_out_str hks a1 a2
  obtain ⟨c, hc⟩ := sortedHeap_at (vs := vs) (out := (arrOf st').map (·.2)) hoL
  refine wpAny_pure ⟨_, rfl, hQ _ s1.heap.objs.size _ c ss' (fun b u e => ?_) g1 o1 hz hc h1 h3 ?_ (fun k => by rw [h2.mem_iff]; exact pk k)⟩
  · have q := k1 b u e
    have lt := Heap.lt_size q
    refine (sortedHeap_old (Nat.ne_of_lt lt) (by rw [size_push']; exact Nat.lt_succ_of_lt lt)).trans ?_
    exact Heap.get?_push_of_some _ q
  · rw [h2.length_eq, ek, List.length_map]
    exact lv
end
end DL

namespace DL
open PySem L2
theorem perm_len : ∀ {m ns : List Str}, m.Nodup → (∀ z ∈ m, z ∈ ns) → ns.length ≤ m.length → ns.Perm m
  | [], ns, _, _, h => by
    have : ns = [] := List.length_eq_zero_iff.mp (by simpa using h)
    rw [this]
  | x :: m, ns, nd, hm, hl => by
    obtain ⟨hx, nd'⟩ := List.nodup_cons.mp nd
    have hin : x ∈ ns := hm x (List.mem_cons_self ..)
    have p := List.perm_cons_erase hin
    have l2 : (ns.erase x).length = ns.length - 1 := List.length_erase_of_mem hin
    have ih := perm_len (ns := ns.erase x) nd' (fun z hz => by
      have hne : z ≠ x := fun e => hx (e ▸ hz)
      exact (List.mem_erase_of_ne hne).mpr (hm z (List.mem_cons_of_mem _ hz))) (by simp only [List.length_cons] at hl; omega)
    exact p.trans (ih.cons x)
/-- a set of texts as an object of the hand layer -/
def TxSet (P : Program) (w : World) (a : Addr) (l : List Str) : HO := .ext fun h => TxS P w h a l
theorem txset_new {P : Program} {w : World} {H : Hp} {h : Heap} {a : Addr} {l : List Str} (R : TxS P w h a l) : ObjOk P w H h a (TxSet P w a l) := by
  have ⟨_, ho, _⟩ := R
  exact ⟨R, ⟨_, ho⟩, fun h1 h2 p k => p.at k⟩
def rSetT (K : PySem.W.Frag) (P : Program) (w : World) : List V → Hp → VK → Prop := fun vs H Q => ∃ (a : Addr) (ks : List Str), vs = [V.ref a] ∧ (SqL K H a (ks.map V.str) ∨ SqT K H a (ks.map V.str)) ∧ ks.length ≤ 4000 ∧
  ∀ (p : Addr) (m : List Str), H p = none → (∀ z, z ∈ m ↔ z ∈ ks) → m.length ≤ ks.length → Q (.ref p) (upd H p (TxSet P w p m))
def rSortT (P : Program) (w : World) : List V → Hp → VK → Prop := fun vs H Q => ∃ (a : Addr) (m : List Str), vs = [V.ref a] ∧ H a = some (TxSet P w a m) ∧ m.length ≤ 4000 ∧
  ∀ (p : Addr) (ns : List Str), H p = none → PyProof.Rows.sortedS ns = true → ns.length = m.length → (∀ z, z ∈ ns ↔ z ∈ m) → ns.Nodup → Q (.ref p) (upd H p (.lst (ns.map V.str)))
section
variable {X : Cx}
theorem cr_setT (hc : X.calm = true) : CallR X (.type "set") (rSetT X.K X.prog X.w) := by
  intro pins s σ H vs us Q I r h
  obtain ⟨a, ks, rfl, hs, hl, q⟩ := h
  rw [Vals.ref1 r]
  have hd := I.ok.hd hc
  rcases hs with hs | hs
  · obtain ⟨its, rv, pt, hz⟩ := I.list hs
    refine call_set_txL ks hd pt.isList rv.strs (by unfold scanBound; omega) fun h' tk m R hm hlen k => ?_
    exact ⟨.ref _, _, I.laid k (Nat.le_refl _) (txset_new R), rfl, q _ m (I.hok.fresh (Nat.le_refl _)) hm hlen⟩
  · obtain ⟨its, rv, pt, hz⟩ := I.tuple hs
    refine call_set_tx ks hd pt rv.strs (by unfold scanBound; omega) fun h' tk m R hm hlen k => ?_
    exact ⟨.ref _, _, I.laid k (Nat.le_refl _) (txset_new R), rfl, q _ m (I.hok.fresh (Nat.le_refl _)) hm hlen⟩
theorem cr_sortT (hc : X.calm = true) : CallR X (.builtin "sorted") (rSortT X.prog X.w) := by
  intro pins s σ H vs us Q I r h
  obtain ⟨a, m, rfl, ha, hl, q⟩ := h
  rw [Vals.ref1 r]
  have hd := I.ok.hd hc
  have R : TxS X.prog X.w s.heap a m := (I.hok a _ ha).1
  have nd : m.Nodup := by obtain ⟨_, _, _, nd, _⟩ := R; exact nd
  refine sorted_tx R hd (by unfold scanBound; omega) fun s' p out c ns k1 g1 o1 hp hat hstr hso hlen hmem => ?_
  have small : (ns.map V.str).length ≤ sizeLine := by rw [List.length_map, hlen]; exact Nat.le_trans hl (by decide)
  have free : H p = none := I.hok.fresh hp
  have J : Inv X pins σ (upd H p (.lst (ns.map V.str))) { s with heap := s'.heap, gens := s'.gens, drawn := s'.drawn, toks := s'.toks } :=
    I.call (ch := []) (Un.laid k1 hp free) (I.hok.laid k1 hp ⟨small, out.toList, c, vals_of_strs hstr, hat⟩) (by rw [g1]; exact I.bare) (fun _ z => nomatch z)
  have es : s' = { s with heap := s'.heap, gens := s'.gens, drawn := s'.drawn, toks := s'.toks } := by
    cases s'
    cases s
    cases o1
    rfl
  rw [es]
  exact ⟨.ref p, _, J, rfl, q p ns free hso hlen hmem ((perm_len nd (fun z hz => (hmem z).mpr hz) (Nat.le_of_eq hlen)).nodup_iff.mpr nd)⟩
end
/-! ### the data layer's rule: sorted(set(e)) of a list or tuple of texts -/
def textsOf : PyData → Option (List Str)
  | .list l => strsD l
  | .tuple l => strsD l
  | _ => none
def wSortedSet (w : WE) : WE := fun Γ Q X => w Γ (fun r Γ1 => ∃ d ks, rd Γ1 r = some d ∧ textsOf d = some ks ∧ ks.length ≤ 4000 ∧
  ∀ zs : List Str, PyProof.Rows.sortedS zs = true → (∀ z, z ∈ zs ↔ z ∈ ks) → zs.Nodup → zs.length ≤ ks.length → Q (.o (zs.map .str)) Γ1) X
section
variable {X : Cx} {W : WX} {e : Expr} {w : WE} {p1 p2 c1 c2 : Pos}
theorem de_sortedSet (he : DE X W e w) (hm1 : X.mg "sorted" = none) (hm2 : X.mg "set" = none) (hc : X.calm = true := by rfl) (g1 : Gl X "sorted" := by rfl) (g2 : Gl X "set" := by rfl)
    (a1 : starEach [e] X.env = (false, eval e X.env) :: starEach [] X.env := by rfl) (b1 : (backTo c2 (starEach [] X.env)).any (·.1) = false := by rfl)
    (a2 : starEach [.Call (.Name "set" p2) [e] [] c2] X.env = (false, eval (.Call (.Name "set" p2) [e] [] c2) X.env) :: starEach [] X.env := by rfl) (b2 : (backTo c1 (starEach [] X.env)).any (·.1) = false := by rfl) :
    DE X W (.Call (.Name "sorted" p1) [.Call (.Name "set" p2) [e] [] c2] [] c1) (wSortedSet w) := by
  have inner := pe_callTy (p := p2) (pos := c2) (x := "set") (cr_setT hc) g2 hm2 PyProof.Rows.boot_set (pa_cons he.pe pa_nil (hs := a1)) (he := a1) (hpl := b1)
  refine de_of (pe_callB (p := p1) (pos := c1) (x := "sorted") (cr_sortT hc) g1 hm1 (by decide +kernel) (pa_cons inner pa_nil (hs := a2)) (he := a2) (hpl := b2)) fun σ H Kn h => ?_
  obtain ⟨B, F, Γ, Q, Xq, E, hw, k, kx⟩ := h
  refine ⟨B, F, Γ, _, Xq, E, hw, fun v r H1 F1 Γ1 s1 E1 rr q => ?_, kx⟩
  obtain ⟨d, ks, hd, ht, hl, q⟩ := q
  have sh := E1.sh rr hd
  have main : ∀ a : Addr, v = .ref a → (SqL X.K H1 a (ks.map V.str) ∨ SqT X.K H1 a (ks.map V.str)) → rSetT X.K X.prog X.w [v] H1 fun x H2 => rSortT X.prog X.w [x] H2 Kn := fun a ev hs => by
    subst ev
    refine ⟨a, ks, rfl, hs, hl, fun p m hp hm hlen => ⟨p, m, rfl, upd_same, by omega, fun p' ns hp' hso hlen' hmem nd => ?_⟩⟩
    exact k _ (.o (ns.map .str)) _ F1 Γ1 s1 ((E1.layH hp).layH hp') (rr_new (E1.layH hp) hp' (reps_strs ns)) (q ns hso (fun z => by rw [hmem, hm]) nd (by omega))
  cases d with
  | list l =>
    obtain ⟨a, vs, ev, hq, hr⟩ := sh
    rw [strs_reps hr ht] at hq
    exact main a ev (.inl hq)
  | tuple l =>
    obtain ⟨a, vs, ev, hq, hr⟩ := sh
    rw [strs_reps hr ht] at hq
    exact main a ev (.inr (sqt_mono E1.ex hq))
  | _ => cases ht
end
end DL

namespace DL
open PySem L2
/-! ### helpers for the mathematics -/
theorem lcI_fm {t : Tg} {cond : WT} {elt : WE} {vs : List Nat} {Fin : List PyData → G → Prop} {ds : List PyData} {Γ : G} (g : PyData → Option PyData)
    (h : ∀ d ∈ ds, ∀ Kn : Option PyData → G → Prop, Kn (g d) Γ → lcS t cond elt vs Kn d Γ) (f : Fin (ds.filterMap g) Γ) : ∃ I, I [] [] Γ ∧ LcI t cond elt vs Fin ds I := by
  refine ⟨fun pre acc Γ' => acc = pre.filterMap g ∧ Γ' = Γ, ⟨rfl, rfl⟩, ⟨?_, ?_⟩⟩
  · rintro pre d post acc Γ' e ⟨rfl, rfl⟩
    refine h d (by rw [e]; simp) _ ⟨?_, rfl⟩
    rw [List.filterMap_append]
    cases q : g d <;> simp [q]
  · rintro acc Γ' ⟨rfl, rfl⟩
    exact f
theorem lcI_map {t : Tg} {cond : WT} {elt : WE} {vs : List Nat} {Fin : List PyData → G → Prop} {ds : List PyData} {Γ : G} (g : PyData → PyData)
    (h : ∀ d ∈ ds, ∀ Kn : Option PyData → G → Prop, Kn (some (g d)) Γ → lcS t cond elt vs Kn d Γ) (f : Fin (ds.map g) Γ) : ∃ I, I [] [] Γ ∧ LcI t cond elt vs Fin ds I := by
  refine ⟨fun pre acc Γ' => acc = pre.map g ∧ Γ' = Γ, ⟨rfl, rfl⟩, ⟨?_, ?_⟩⟩
  · rintro pre d post acc Γ' e ⟨rfl, rfl⟩
    refine h d (by rw [e]; simp) _ ⟨?_, rfl⟩
    simp
  · rintro acc Γ' ⟨rfl, rfl⟩
    exact f
theorem lcI_fmE {t : Tg} {cond : WT} {elt : WE} {vs : List Nat} {Fin : List PyData → G → Prop} {ds : List PyData} {Γ : G} {α : Type} (xs : List α) (e : α → PyData) (g : α → Option PyData) (hds : ds = xs.map e)
    (h : ∀ x ∈ xs, ∀ Kn : Option PyData → G → Prop, Kn (g x) Γ → lcS t cond elt vs Kn (e x) Γ) (f : Fin (xs.filterMap g) Γ) : ∃ I, I [] [] Γ ∧ LcI t cond elt vs Fin ds I := by
  refine ⟨fun pre acc Γ' => ∃ ys, ys <+: xs ∧ pre = ys.map e ∧ acc = ys.filterMap g ∧ Γ' = Γ, ⟨[], List.nil_prefix, rfl, rfl, rfl⟩, ⟨?_, ?_⟩⟩
  · rintro pre d post acc Γ' q ⟨ys, ⟨zs, hz⟩, rfl, rfl, rfl⟩
    rw [hds, ← hz, List.map_append] at q
    have q2 := List.append_cancel_left q
    cases zs with
    | nil => simp at q2
    | cons z zs =>
      simp only [List.map_cons, List.cons.injEq] at q2
      obtain ⟨q2, _⟩ := q2
      subst q2
      refine h z (by rw [← hz]; simp) _ ⟨ys ++ [z], ⟨zs, by rw [← hz]; simp⟩, by simp, ?_, rfl⟩
      rw [List.filterMap_append]
      cases q : g z <;> simp [q]
  · rintro acc Γ' ⟨ys, hp, q, rfl, rfl⟩
    have hl : ys.length = xs.length := by
      have := congrArg List.length (q.symm.trans hds)
      simpa using this
    rw [hp.eq_of_length hl]
    exact f
theorem lcI_mapE {t : Tg} {cond : WT} {elt : WE} {vs : List Nat} {Fin : List PyData → G → Prop} {ds : List PyData} {Γ : G} {α : Type} (xs : List α) (e : α → PyData) (g : α → PyData) (hds : ds = xs.map e)
    (h : ∀ x ∈ xs, ∀ Kn : Option PyData → G → Prop, Kn (some (g x)) Γ → lcS t cond elt vs Kn (e x) Γ) (f : Fin (xs.map g) Γ) : ∃ I, I [] [] Γ ∧ LcI t cond elt vs Fin ds I :=
  lcI_fmE xs e (fun x => some (g x)) hds h (by rw [List.filterMap_eq_map']; exact f)
theorem bools_map {α : Type} (f : α → Bool) : ∀ l : List α, bools (l.map fun x => PyData.bool (f x)) = some (l.map f)
  | [] => rfl
  | x :: l => by
    show (bools (l.map fun x => PyData.bool (f x))).map (f x :: ·) = _
    rw [bools_map f l]
    rfl
theorem bools_mapB (l : List Bool) : bools (l.map PyData.bool) = some l := by
  have := bools_map id l
  simpa using this
theorem strsD_map (l : List Str) : strsD (l.map PyData.str) = some l := by
  induction l with
  | nil => rfl
  | cons x l ih =>
    show (strsD (l.map PyData.str)).map (x :: ·) = _
    rw [ih]; rfl
/-! ### data of a middling size -/
def okS (s : Str) : Bool := PySem.PyData.strOk s && decide (s.length ≤ 1000000)
mutual
def okD : PyData → Bool
  | .str s => okS s
  | .list l => okDs l && decide (l.length ≤ 1000000)
  | .tuple l => okDs l && decide (l.length ≤ 1000000)
  | .dict _ => false
  | .none => true
  | .bool _ => true
  | .int _ => true
def okDs : List PyData → Bool
  | [] => true
  | x :: xs => okD x && okDs xs
end
theorem okDs_iff : ∀ {l : List PyData}, okDs l = true ↔ ∀ x ∈ l, okD x = true
  | [] => by simp [okDs]
  | x :: xs => by simp [okDs, okDs_iff (l := xs)]
theorem okS_len {s : Str} (h : okS s = true) : s.length ≤ sizeLine := by
  unfold okS at h
  simp only [Bool.and_eq_true, decide_eq_true_eq] at h
  exact Nat.le_trans h.2 (by decide)
theorem okS_len' {s : Str} (h : okS s = true) : s.length ≤ 1000000 := by
  unfold okS at h
  simp only [Bool.and_eq_true, decide_eq_true_eq] at h
  exact h.2
theorem okS_ok {s : Str} (h : okS s = true) : PySem.PyData.strOk s = true := by
  unfold okS at h
  simp only [Bool.and_eq_true, decide_eq_true_eq] at h
  exact h.1
mutual
theorem canLay_ok : ∀ d : PyData, okD d = true → d.canLay0 = true
  | .none, _ => by simp [PyData.canLay0]
  | .bool _, _ => by simp [PyData.canLay0]
  | .int _, _ => by simp [PyData.canLay0]
  | .str s, h => by simp only [PyData.canLay0]; exact okS_ok (by simpa [okD] using h)
  | .list l, h => by simp only [PyData.canLay0]; simp only [okD, Bool.and_eq_true] at h; exact canLays_ok l h.1
  | .tuple l, h => by simp only [PyData.canLay0]; simp only [okD, Bool.and_eq_true] at h; exact canLays_ok l h.1
  | .dict _, h => by simp [okD] at h
theorem canLays_ok : ∀ l : List PyData, okDs l = true → PyData.canLayAll0 l = true
  | [], _ => by simp [PyData.canLayAll0]
  | x :: xs, h => by
    simp only [okDs, Bool.and_eq_true] at h
    simp only [PyData.canLayAll0, Bool.and_eq_true]
    exact ⟨canLay_ok x h.1, canLays_ok xs h.2⟩
end
theorem shaped_ok {d : PyData} (h : okD d = true) (hd : d.depth ≤ 64) : SeqAt.shaped d = true := by
  unfold SeqAt.shaped
  rw [canLay_ok d h, decide_eq_true hd]
  rfl
end DL
namespace DL
open PySem L2
def isStrD : PyData → Bool | .str _ => true | _ => false
def isIntD : PyData → Bool | .int _ => true | .bool _ => true | _ => false
def isBoolD : PyData → Bool | .bool _ => true | _ => false
def isTupD : PyData → Bool | .tuple _ => true | _ => false
def isLstD : PyData → Bool | .list _ => true | _ => false
def isDicD : PyData → Bool | .dict _ => true | _ => false
theorem isA_str (d : PyData) : isA "str" d = isStrD d := by cases d <;> simp [isA, tyS, isStrD]
theorem isA_int (d : PyData) : isA "int" d = isIntD d := by cases d <;> simp [isA, tyS, isIntD]
theorem isA_bool (d : PyData) : isA "bool" d = isBoolD d := by cases d <;> simp [isA, tyS, isBoolD]
theorem isA_tuple (d : PyData) : isA "tuple" d = isTupD d := by cases d <;> simp [isA, tyS, isTupD]
theorem isA_list (d : PyData) : isA "list" d = isLstD d := by cases d <;> simp [isA, tyS, isLstD]
theorem isA_dict (d : PyData) : isA "dict" d = isDicD d := by cases d <;> simp [isA, tyS, isDicD]
def sg (c : Nat) : Str := ⟨#[c]⟩
theorem le1n (n : Nat) : decide ((1 : Int) ≤ (n : Int)) = decide (1 ≤ n) := by apply decide_eq_decide.mpr; omega
theorem leI (n m : Nat) : decide ((n : Int) ≤ (m : Int)) = decide (n ≤ m) := by apply decide_eq_decide.mpr; omega
theorem ltI (n m : Nat) : decide ((n : Int) < (m : Int)) = decide (n < m) := by apply decide_eq_decide.mpr; omega
end DL

namespace DL
open PySem L2
theorem atI_nat {α : Type} {xs : List α} {k : Nat} {x : α} (h : xs[k]? = some x) : atI xs ((k : Nat) : Int) = some x := by
  have hk : k < xs.length := (List.getElem?_eq_some_iff.mp h).1
  unfold atI ixN
  rw [if_pos (by omega), if_pos (by omega)]
  simpa using h
theorem atI_last {α : Type} {xs : List α} {x : α} (h : xs.getLast? = some x) : atI xs (-1) = some x := by
  unfold atI ixN
  rw [if_neg (by omega)]
  have hk : xs.length ≠ 0 := by intro e; rw [List.length_eq_zero_iff.mp e] at h; cases h
  rw [if_pos (by omega)]
  rw [List.getLast?_eq_getElem?] at h
  have : ((-1 : Int) + (xs.length : Int)).toNat = xs.length - 1 := by omega
  simp only [Option.bind_some, this]
  exact h
theorem atI_pred {α : Type} {xs : List α} {x : α} (h : xs.getLast? = some x) : atI xs ((xs.length : Int) - 1) = some x := by
  have hk : xs.length ≠ 0 := by intro e; rw [List.length_eq_zero_iff.mp e] at h; cases h
  rw [List.getLast?_eq_getElem?] at h
  have := atI_nat (k := xs.length - 1) h
  rw [show ((xs.length : Int) - 1) = ((xs.length - 1 : Nat) : Int) by omega]
  exact this
/-- data of a middling size and depth -/
def sd (d : PyData) : Prop := okD d = true ∧ d.depth ≤ 64
def sds (l : List PyData) : Prop := ∀ d ∈ l, sd d
theorem eqOk_sd {x y : PyData} (hx : sd x) (hy : sd y) : eqOk x y := .inr ⟨shaped_ok hx.1 hx.2, shaped_ok hy.1 hy.2⟩
theorem depth_mem : ∀ {l : List PyData} {d : PyData}, d ∈ l → d.depth ≤ PyData.depthAll l
  | x :: l, d, h => by
    simp only [PyData.depthAll]
    rcases List.mem_cons.mp h with rfl | h
    · omega
    · have := depth_mem h; omega
theorem depthAll_le : ∀ {l : List PyData} {n : Nat}, (∀ d ∈ l, d.depth ≤ n) → PyData.depthAll l ≤ n
  | [], _, _ => by simp [PyData.depthAll]
  | x :: l, n, h => by
    simp only [PyData.depthAll]
    have := depthAll_le (l := l) (fun d hd => h d (List.mem_cons_of_mem _ hd))
    have := h x (List.mem_cons_self ..)
    omega
theorem ok_tup {l : List PyData} (h : ∀ d ∈ l, okD d = true) (hl : l.length ≤ 1000000 := by decide) : okD (.tuple l) = true := by simp only [okD, Bool.and_eq_true, decide_eq_true_eq]; exact ⟨okDs_iff.mpr h, hl⟩
theorem ok_lst {l : List PyData} (h : ∀ d ∈ l, okD d = true) (hl : l.length ≤ 1000000 := by decide) : okD (.list l) = true := by simp only [okD, Bool.and_eq_true, decide_eq_true_eq]; exact ⟨okDs_iff.mpr h, hl⟩
theorem of_tup {l : List PyData} (h : okD (.tuple l) = true) : ∀ d ∈ l, okD d = true := by simp only [okD, Bool.and_eq_true] at h; exact okDs_iff.mp h.1
theorem of_lst {l : List PyData} (h : okD (.list l) = true) : ∀ d ∈ l, okD d = true := by simp only [okD, Bool.and_eq_true] at h; exact okDs_iff.mp h.1
theorem len_tup {l : List PyData} (h : okD (.tuple l) = true) : l.length ≤ 1000000 := by simp only [okD, Bool.and_eq_true, decide_eq_true_eq] at h; exact h.2
theorem len_lst {l : List PyData} (h : okD (.list l) = true) : l.length ≤ 1000000 := by simp only [okD, Bool.and_eq_true, decide_eq_true_eq] at h; exact h.2
theorem lz {n : Nat} (h : n ≤ 1000000) : n < sizeLine := Nat.lt_of_le_of_lt h (by decide)
theorem sd_tup {l : List PyData} (h : sd (.tuple l)) : sds l := fun d hd => by
  obtain ⟨h1, h2⟩ := h
  refine ⟨of_tup h1 d hd, ?_⟩
  have := depth_mem hd
  simp only [PyData.depth] at h2
  omega
theorem sd_lst {l : List PyData} (h : sd (.list l)) : sds l := fun d hd => by
  obtain ⟨h1, h2⟩ := h
  refine ⟨of_lst h1 d hd, ?_⟩
  have := depth_mem hd
  simp only [PyData.depth] at h2
  omega
theorem sd_str {s : Str} (h : okS s = true) : sd (.str s) := ⟨by simpa [okD] using h, by simp [PyData.depth]⟩
theorem sd_none : sd .none := ⟨rfl, by simp [PyData.depth]⟩
theorem sd_int (i : Int) : sd (.int i) := ⟨rfl, by simp [PyData.depth]⟩
theorem sd_bool (i : Bool) : sd (.bool i) := ⟨rfl, by simp [PyData.depth]⟩
theorem dp_tup {l : List PyData} {n : Nat} (h : ∀ d ∈ l, d.depth ≤ n) : (PyData.tuple l).depth ≤ n + 1 := by
  simp only [PyData.depth]; have := depthAll_le h; omega
theorem ok_str {s : Str} (h : okS s = true) : okD (.str s) = true := by simpa [okD] using h
theorem eqv_str (x y : Str) : PyData.eqv (.str x) (.str y) = (x == y) := by simp [PyData.eqv]
theorem eqv_int (x y : Int) : PyData.eqv (.int x) (.int y) = (x == y) := by simp [PyData.eqv]
theorem eqv_bool (x y : Bool) : PyData.eqv (.bool x) (.bool y) = (x == y) := by simp [PyData.eqv]
theorem sg_eq {s : Str} {k c : Nat} (h : s.cps.toList = [k]) : (sg c == s) = (c == k) := by
  have : s = sg k := by
    cases s with | mk a => show (⟨a⟩ : Str) = ⟨#[k]⟩; congr 1; apply Array.toList_inj.mp; simpa using h
  subst this
  rw [Bool.eq_iff_iff]
  simp [sg]
end DL

namespace DL
open PySem L2
section
variable (Q : R → Prop) (i j : Int) (a b z : Str) (l m : List PyData)
theorem F_add_i : fAdd (.int i) (.int j) Q = Q (.d (.int (i + j))) := rfl
theorem F_add_s : fAdd (.str a) (.str b) Q = (a.length + b.length ≤ sizeLine ∧ Q (.d (.str (a ++ b)))) := rfl
theorem F_add_l : fAdd (.list l) (.list m) Q = (l.length + m.length ≤ sizeLine ∧ Q (.o (l ++ m))) := rfl
theorem F_add_t : fAdd (.tuple l) (.tuple m) Q = (l.length + m.length ≤ sizeLine ∧ Q (.d (.tuple (l ++ m)))) := rfl
theorem F_int (C : Int → Int → Prop) (g : Int → Int → Int) : fInt C g (.int i) (.int j) Q = (C i j ∧ Q (.d (.int (g i j)))) := rfl
theorem F_cmp_i (g : Int → Int → Bool) (h : List Nat → List Nat → Bool) : fCmp g h (.int i) (.int j) Q = Q (.d (.bool (g i j))) := rfl
theorem F_cmp_s (g : Int → Int → Bool) (h : List Nat → List Nat → Bool) : fCmp g h (.str a) (.str b) Q = Q (.d (.bool (h a.cps.toList b.cps.toList))) := rfl
theorem F_in_l (n : Bool) (x : PyData) : fIn n x (.list l) Q = (flat x = true ∧ l.all flat = true ∧ Q (.d (.bool (if n then !inD x l else inD x l)))) := rfl
theorem F_in_t (n : Bool) (x : PyData) : fIn n x (.tuple l) Q = (flat x = true ∧ l.all flat = true ∧ Q (.d (.bool (if n then !inD x l else inD x l)))) := rfl
theorem F_in_s (n : Bool) (x : PyData) : fIn n x (.str z) Q = (∃ c, x = .str (sg c) ∧ Q (.d (.bool (if n then !decide (c ∈ z.cps.toList) else decide (c ∈ z.cps.toList))))) := rfl
theorem F_ix_l : fIx (.list l) (.int i) Q = ∃ d, atI l i = some d ∧ Q (.d d) := rfl
theorem F_ix_t : fIx (.tuple l) (.int i) Q = ∃ d, atI l i = some d ∧ Q (.d d) := rfl
theorem F_ix_s : fIx (.str z) (.int i) Q = (z.length ≤ sizeLine ∧ ∃ c, atI z.cps.toList i = some c ∧ Q (.d (.str (sg c)))) := rfl
variable (lo hi : Option Int)
theorem F_sl_l : fSl (.list l) lo hi Q = Q (.o (cutL l lo hi)) := rfl
theorem F_sl_t : fSl (.tuple l) lo hi Q = Q (.d (.tuple (cutL l lo hi))) := rfl
theorem F_sl_s : fSl (.str z) lo hi Q = (z.length ≤ sizeLine ∧ Q (.d (.str (cutS z lo hi)))) := rfl
theorem F_len_l : fLen [.list l] Q = Q (.d (.int (l.length : Int))) := rfl
theorem F_len_t : fLen [.tuple l] Q = Q (.d (.int (l.length : Int))) := rfl
theorem F_len_s : fLen [.str z] Q = (z.length ≤ sizeLine ∧ Q (.d (.int (z.length : Int)))) := rfl
theorem F_toInt : fToInt [.int i] Q = Q (.d (.int i)) := rfl
theorem F_toStr : fToStr [.int i] Q = (i.natAbs.log2 < 1920 ∧ Q (.d (.str (Str.ofString (toString i))))) := rfl
theorem F_toTup_l : fToTup [.list l] Q = Q (.d (.tuple l)) := rfl
theorem F_toTup_t : fToTup [.tuple l] Q = Q (.d (.tuple l)) := rfl
theorem F_toLst_l : fToLst [.list l] Q = Q (.o l) := rfl
theorem F_toLst_t : fToLst [.tuple l] Q = Q (.o l) := rfl
theorem F_all : fAll [.list l] Q = ∃ bs, bools l = some bs ∧ Q (.d (.bool (bs.all id))) := rfl
theorem F_any : fAny [.list l] Q = ∃ bs, bools l = some bs ∧ Q (.d (.bool (bs.any id))) := rfl
theorem F_split : fSplit (.str a) (.str b) Q = ((b.length == 0) = false ∧ a.length + 2 ≤ sizeLine ∧ Q (.o ((Txt.split a b).map .str))) := rfl
theorem F_join_l : fJoin (.str a) (.list l) Q = ∃ ys, strsD l = some ys ∧ (ys.map (·.length)).sum + ys.length * a.length ≤ 16777216 ∧ Q (.d (.str (Txt.join a ys))) := rfl
theorem F_join_t : fJoin (.str a) (.tuple l) Q = ∃ ys, strsD l = some ys ∧ (ys.map (·.length)).sum + ys.length * a.length ≤ 16777216 ∧ Q (.d (.str (Txt.join a ys))) := rfl
theorem F_part : fPart (.str a) (.str b) Q = ((b.length == 0) = false ∧ a.length ≤ sizeLine ∧ Q (.d (.tuple [.str (Txt.partition a b).1, .str (Txt.partition a b).2.1, .str (Txt.partition a b).2.2]))) := rfl
theorem F_start : fStart (.str a) (.str b) Q = Q (.d (.bool (Txt.startswith a b))) := rfl
theorem F_end : fEnd (.str a) (.str b) Q = Q (.d (.bool (Txt.endswith a b))) := rfl
theorem F_strip (g : Str → Str → Str) : fStripC g (.str a) (.str b) Q = (a.length ≤ sizeLine ∧ Q (.d (.str (g a b)))) := rfl
theorem F_sorted_l : fSorted [.list l] Q = ∃ ys, strsD l = some ys ∧ ∀ zs : List Str, zs.Perm ys → PyProof.Rows.sortedS zs = true → Q (.o (zs.map .str)) := rfl
theorem F_sorted_t : fSorted [.tuple l] Q = ∃ ys, strsD l = some ys ∧ ∀ zs : List Str, zs.Perm ys → PyProof.Rows.sortedS zs = true → Q (.o (zs.map .str)) := rfl
theorem N_none : isNone .none = true := rfl
theorem N_str : isNone (.str a) = false := rfl
theorem N_int : isNone (.int i) = false := rfl
theorem N_bool (p : Bool) : isNone (.bool p) = false := rfl
theorem N_tup : isNone (.tuple l) = false := rfl
theorem N_lst : isNone (.list l) = false := rfl
theorem S_str : isStrD (.str a) = true := rfl
theorem S_none : isStrD .none = false := rfl
theorem S_int : isStrD (.int i) = false := rfl
theorem S_bool (p : Bool) : isStrD (.bool p) = false := rfl
theorem S_tup : isStrD (.tuple l) = false := rfl
theorem S_lst : isStrD (.list l) = false := rfl
theorem I_str : isIntD (.str a) = false := rfl
theorem I_none : isIntD .none = false := rfl
theorem I_int : isIntD (.int i) = true := rfl
theorem I_bool (p : Bool) : isIntD (.bool p) = true := rfl
theorem I_tup : isIntD (.tuple l) = false := rfl
theorem I_lst : isIntD (.list l) = false := rfl
theorem B_str : isBoolD (.str a) = false := rfl
theorem B_none : isBoolD .none = false := rfl
theorem B_int : isBoolD (.int i) = false := rfl
theorem B_bool (p : Bool) : isBoolD (.bool p) = true := rfl
theorem B_tup : isBoolD (.tuple l) = false := rfl
theorem B_lst : isBoolD (.list l) = false := rfl
theorem T_str : isTupD (.str a) = false := rfl
theorem T_none : isTupD .none = false := rfl
theorem T_int : isTupD (.int i) = false := rfl
theorem T_bool (p : Bool) : isTupD (.bool p) = false := rfl
theorem T_tup : isTupD (.tuple l) = true := rfl
theorem T_lst : isTupD (.list l) = false := rfl
theorem L_str : isLstD (.str a) = false := rfl
theorem L_none : isLstD .none = false := rfl
theorem L_int : isLstD (.int i) = false := rfl
theorem L_bool (p : Bool) : isLstD (.bool p) = false := rfl
theorem L_tup : isLstD (.tuple l) = false := rfl
theorem L_lst : isLstD (.list l) = true := rfl
theorem D_str : isDicD (.str a) = false := rfl
theorem D_none : isDicD .none = false := rfl
theorem D_int : isDicD (.int i) = false := rfl
theorem D_bool (p : Bool) : isDicD (.bool p) = false := rfl
theorem D_tup : isDicD (.tuple l) = false := rfl
theorem D_lst : isDicD (.list l) = false := rfl
theorem N_dic (k : List (PyData × PyData)) : isNone (.dict k) = false := rfl
theorem S_dic (k : List (PyData × PyData)) : isStrD (.dict k) = false := rfl
theorem I_dic (k : List (PyData × PyData)) : isIntD (.dict k) = false := rfl
theorem B_dic (k : List (PyData × PyData)) : isBoolD (.dict k) = false := rfl
theorem T_dic (k : List (PyData × PyData)) : isTupD (.dict k) = false := rfl
theorem L_dic (k : List (PyData × PyData)) : isLstD (.dict k) = false := rfl
theorem D_dic (k : List (PyData × PyData)) : isDicD (.dict k) = true := rfl
theorem E_ss : eqOk (.str a) (.str b) = True := eq_true (.inl rfl)
theorem E_ii : eqOk (.int i) (.int j) = True := eq_true (.inl rfl)
theorem E_bb (p q : Bool) : eqOk (.bool p) (.bool q) = True := eq_true (.inl rfl)
theorem E_ns : eqOk .none (.str b) = True := eq_true (.inl rfl)
theorem E_is : eqOk (.int i) (.str b) = True := eq_true (.inl rfl)
theorem E_bs (p : Bool) : eqOk (.bool p) (.str b) = True := eq_true (.inl rfl)
theorem E_nn : eqOk .none .none = True := eq_true (.inl rfl)
end
section
variable (Γ : G) (x : PyData) (l : List PyData) (i : Nat)
theorem rd_d : rd Γ (.d x) = some x := rfl
theorem rd_o : rd Γ (.o l) = some (.list l) := rfl
theorem rd_b : rd Γ (.b i) = match Γ[i]? with
    | some s => s.mu.map .list
    | none => none := rfl
theorem rdf_d : rdf (.d x) = some x := rfl
theorem rdf_o : rdf (.o l) = some (.list l) := rfl
theorem fz_d : R.fz (.d x) = .d x := rfl
theorem fz_o : R.fz (.o l) = .d (.list l) := rfl
theorem fz_b : R.fz (.b i) = .b i := rfl
theorem sl_d : R.sl (.d x) = .v x := rfl
theorem sl_o : R.sl (.o l) = .own l := rfl
theorem ok_d : R.ok (.d x) = True := rfl
theorem ok_o : R.ok (.o l) = True := rfl
theorem argSl_d : argSl Γ (.d x) = some (.v x) := rfl
theorem argSl_o : argSl Γ (.o l) = some (.v (.list l)) := rfl
theorem argSl_b : argSl Γ (.b i) = match Γ[i]? with
    | some s => s.mu.map Sl.cell
    | none => none := rfl
theorem X_txl : textsOf (.list l) = strsD l := rfl
theorem X_txt : textsOf (.tuple l) = strsD l := rfl
theorem items_l : items (.list l) = some l := rfl
theorem items_t : items (.tuple l) = some l := rfl
theorem items_s (s : Str) : items (.str s) = some (signs s) := rfl
end
end DL

namespace DL
open PySem L2
theorem forI_E {t : Tg} {body : WS} {P : Pst} {ds : List PyData} {Γ1 : G} {α : Type} (xs : List α) (e : α → PyData) (J : List α → G → Prop) (hds : ds = xs.map e) (i0 : J [] Γ1)
    (step : ∀ pre x post Γ, xs = pre ++ x :: post → J pre Γ → ∀ N : G → Prop, (∀ Γ', J (pre ++ [x]) Γ' → N Γ') → wG t (e x) Γ (fun Γ2 => body Γ2 { nx := N, rt := P.rt, bk := P.nx, ct := N, xc := P.xc }))
    (fin : ∀ Γ, J xs Γ → P.nx Γ) : ∃ I, I [] Γ1 ∧ ForI t body P ds I := by
  refine ⟨fun pre Γ => ∃ ys, ys <+: xs ∧ pre = ys.map e ∧ J ys Γ, ⟨[], List.nil_prefix, rfl, i0⟩, ⟨?_, ?_⟩⟩
  · rintro pre d post Γ q ⟨ys, ⟨zs, hz⟩, rfl, hj⟩
    rw [hds, ← hz, List.map_append] at q
    have q2 := List.append_cancel_left q
    cases zs with
    | nil => simp at q2
    | cons z zs =>
      simp only [List.map_cons, List.cons.injEq] at q2
      obtain ⟨q2, _⟩ := q2
      subst q2
      exact step ys z zs Γ hz.symm hj _ fun Γ' h => ⟨ys ++ [z], ⟨zs, by rw [← hz]; simp⟩, by simp, h⟩
  · rintro Γ ⟨ys, hp, q, hj⟩
    have hl : ys.length = xs.length := by
      have := congrArg List.length (q.symm.trans hds)
      simpa using this
    rw [hp.eq_of_length hl] at hj
    exact fin Γ hj
def nc : Sl → Prop
  | .cell _ => False
  | _ => True
theorem rangeL_map (a : Int) (n : Nat) : rangeL a n = (List.range n).map fun (i : Nat) => PyData.int (a + i) := rfl
theorem inR_of {n : Nat} (h : n ≤ 1000000) : inR (n : Int) := ⟨by omega, by omega⟩
def ncO : Option Sl → Prop
  | some s => nc s
  | none => False
theorem ncO_some (s : Sl) : ncO (some s) = nc s := rfl
theorem nc_v (d : PyData) : nc (.v d) = True := rfl
theorem nc_own (d : List PyData) : nc (.own d) = True := rfl
theorem nc_no : nc .no = True := rfl
theorem stOk_eq (Γ : G) (i : Nat) : stOk Γ i = ncO Γ[i]? := by
  unfold stOk ncO
  cases Γ[i]? with
  | none => rfl
  | some s => cases s <;> rfl
theorem cpow10 : CPow 10 18 := ⟨by decide, by decide, by decide⟩
theorem cmulR (i j : Int) (h : -(2 ^ 64) < j ∧ j < 2 ^ 64 := by decide) : CMul i j := .inr h
theorem cmulL (i j : Int) (h : -(2 ^ 64) < i ∧ i < 2 ^ 64 := by decide) : CMul i j := .inl h
theorem inR_c {i : Int} (h : -(2 ^ 62) ≤ i ∧ i < 2 ^ 62 := by decide) : inR i := h
theorem cut63 (ns : List Int) : cutL (ns.map PyData.int) none (some 63) = (ns.take 63).map PyData.int := by
  unfold cutL HT.sIx
  simp
theorem mod_lt (i : Int) {j : Int} (h : 0 < j) : 0 ≤ i % j ∧ i % j < j := ⟨Int.emod_nonneg _ (by omega), Int.emod_lt_of_pos _ h⟩
/-! ### texts by their codes -/
def ofL (cs : List Nat) : Str := ⟨cs.toArray⟩
theorem ofL_len (cs : List Nat) : (ofL cs).length = cs.length := by simp [ofL, Str.length]
theorem ofL_l (cs : List Nat) : (ofL cs).cps.toList = cs := by simp [ofL]
theorem ofL_of (s : Str) : ofL s.cps.toList = s := by cases s; simp [ofL]
theorem ofL_append (a b : List Nat) : ofL a ++ ofL b = ofL (a ++ b) := by
  show (⟨a.toArray ++ b.toArray⟩ : Str) = _
  simp [ofL]
theorem cutS_init (cs : List Nat) (h : 1 ≤ cs.length) : cutS (ofL cs) none (some ((cs.length : Int) - 1)) = ofL cs.dropLast := by
  unfold cutS
  rw [ofL_l, ofL_len]
  simp only [HT.sIx_none]
  rw [show ((cs.length : Int) - 1) = ((cs.length - 1 : Nat) : Int) by omega, HT.sIx_nat]
  simp only [List.drop_zero, Nat.sub_zero]
  rw [Nat.min_eq_left (by omega), ← List.dropLast_eq_take]
  rfl
theorem okS_ofL {cs : List Nat} (h : ∀ c ∈ cs, c < 0x110000) (hl : cs.length ≤ 1000000) : okS (ofL cs) = true := by
  unfold okS PySem.PyData.strOk
  rw [Bool.and_eq_true, decide_eq_true_eq, ofL_len]
  refine ⟨?_, hl⟩
  simp only [ofL, List.all_toArray, List.all_eq_true, decide_eq_true_eq]
  exact h
end DL

namespace DL
open PySem L2
theorem lcI_E {t : Tg} {cond : WT} {elt : WE} {vs : List Nat} {Fin : List PyData → G → Prop} {ds : List PyData} {Γ : G} {α : Type} (xs : List α) (e : α → PyData) (J : List α → List PyData → G → Prop) (hds : ds = xs.map e) (i0 : J [] [] Γ)
    (step : ∀ pre x post acc Γ, xs = pre ++ x :: post → J pre acc Γ → ∀ Kn : Option PyData → G → Prop, (∀ o Γ', J (pre ++ [x]) (acc ++ o.toList) Γ' → Kn o Γ') → lcS t cond elt vs Kn (e x) Γ)
    (fin : ∀ acc Γ, J xs acc Γ → Fin acc Γ) : ∃ I, I [] [] Γ ∧ LcI t cond elt vs Fin ds I := by
  refine ⟨fun pre acc Γ => ∃ ys, ys <+: xs ∧ pre = ys.map e ∧ J ys acc Γ, ⟨[], List.nil_prefix, rfl, i0⟩, ⟨?_, ?_⟩⟩
  · rintro pre d post acc Γ q ⟨ys, ⟨zs, hz⟩, rfl, hj⟩
    rw [hds, ← hz, List.map_append] at q
    have q2 := List.append_cancel_left q
    cases zs with
    | nil => simp at q2
    | cons z zs =>
      simp only [List.map_cons, List.cons.injEq] at q2
      obtain ⟨q2, _⟩ := q2
      subst q2
      exact step ys z zs acc Γ hz.symm hj _ fun o Γ' h => ⟨ys ++ [z], ⟨zs, by rw [← hz]; simp⟩, by simp, h⟩
  · rintro acc Γ ⟨ys, hp, q, hj⟩
    have hl : ys.length = xs.length := by
      have := congrArg List.length (q.symm.trans hds)
      simpa using this
    rw [hp.eq_of_length hl] at hj
    exact fin acc Γ hj
/-! ### texts in order -/
def sLt (a b : Str) : Prop := a.cps.toList < b.cps.toList
instance (a b : Str) : Decidable (sLt a b) := by unfold sLt; infer_instance
theorem str_ext {a b : Str} (h : a.cps.toList = b.cps.toList) : a = b := by rw [← ofL_of a, ← ofL_of b, h]
theorem sLt_irrefl (a : Str) : ¬ sLt a a := List.lt_irrefl _
theorem sLt_trans {a b c : Str} (h : sLt a b) (h2 : sLt b c) : sLt a c := List.lt_trans h h2
theorem sLt_asymm {a b : Str} (h : sLt a b) : ¬ sLt b a := fun h2 => sLt_irrefl a (sLt_trans h h2)
theorem sLt_tri (a b : Str) : sLt a b ∨ a = b ∨ sLt b a := by
  by_cases h : sLt a b
  · exact .inl h
  · by_cases h2 : sLt b a
    · exact .inr (.inr h2)
    · exact .inr (.inl (str_ext (List.le_antisymm (List.not_lt.mp h2) (List.not_lt.mp h))))
def Rise (l : List Str) : Prop := l.Pairwise sLt
theorem rise_unique : ∀ {a b : List Str}, Rise a → Rise b → (∀ s, s ∈ a ↔ s ∈ b) → a = b
  | [], [], _, _, _ => rfl
  | [], y :: b, _, _, h => by have := (h y).mpr (List.mem_cons_self ..); cases this
  | x :: a, [], _, _, h => by have := (h x).mp (List.mem_cons_self ..); cases this
  | x :: a, y :: b, ha, hb, h => by
    obtain ⟨ha1, ha2⟩ := List.pairwise_cons.mp ha
    obtain ⟨hb1, hb2⟩ := List.pairwise_cons.mp hb
    have exy : x = y := by
      rcases List.mem_cons.mp ((h x).mp (List.mem_cons_self ..)) with e | e
      · exact e
      · rcases List.mem_cons.mp ((h y).mpr (List.mem_cons_self ..)) with e2 | e2
        · exact e2.symm
        · exact absurd (hb1 x e) (sLt_asymm (ha1 y e2))
    subst exy
    congr 1
    refine rise_unique ha2 hb2 fun s => ⟨fun hs => ?_, fun hs => ?_⟩
    · rcases List.mem_cons.mp ((h s).mp (List.mem_cons_of_mem _ hs)) with e | e
      · subst e; exact absurd (ha1 _ hs) (sLt_irrefl _)
      · exact e
    · rcases List.mem_cons.mp ((h s).mpr (List.mem_cons_of_mem _ hs)) with e | e
      · subst e; exact absurd (hb1 _ hs) (sLt_irrefl _)
      · exact e
theorem risingS_pw : ∀ {p : Str} {l : List Str}, PyProof.Rows.risingS p l = true → (p :: l).Pairwise fun a b => ¬ sLt b a
  | p, [], _ => by simp
  | p, x :: l, h => by
    simp only [PyProof.Rows.risingS, Bool.and_eq_true, PyProof.Rows.ltCps_eq, Bool.not_eq_true', decide_eq_false_iff_not] at h
    obtain ⟨h1, h2⟩ := h
    have ih := risingS_pw h2
    refine List.pairwise_cons.mpr ⟨fun b hb => ?_, ih⟩
    rcases List.mem_cons.mp hb with rfl | hb
    · exact h1
    · have h3 := (List.pairwise_cons.mp ih).1 b hb
      intro h4
      rcases sLt_tri p x with z | z | z
      · exact h3 (sLt_trans h4 z)
      · subst z; exact h3 h4
      · exact h1 z
theorem sortedS_pw : ∀ {l : List Str}, PyProof.Rows.sortedS l = true → l.Pairwise fun a b => ¬ sLt b a
  | [], _ => by simp
  | x :: l, h => risingS_pw h
theorem inD_strs (s : Str) : ∀ l : List Str, inD (.str s) (l.map .str) = decide (s ∈ l)
  | [] => by simp [inD]
  | x :: l => by
    have ih := inD_strs s l
    unfold inD at ih ⊢
    rw [List.map_cons, List.any_cons, ih, eqv_str]
    rw [Bool.eq_iff_iff]
    simp only [Bool.or_eq_true, beq_iff_eq, decide_eq_true_eq, List.mem_cons]
    constructor
    · rintro (h | h)
      · exact .inl h.symm
      · exact .inr h
    · rintro (h | h)
      · exact .inl h.symm
      · exact .inr h
theorem flat_strs (l : List Str) : (l.map PyData.str).all flat = true := by simp [flat]
theorem flat_str (s : Str) : flat (.str s) = true := rfl
end DL

namespace DL
open PySem L2
abbrev txs (l : List Str) : List PyData := l.map .str
/-- what a list holds at a drawn place -/
theorem atI_map {α : Type} (e : α → PyData) (l : List α) {r : Int} (h0 : 0 ≤ r) (h1 : r < (l.length : Int)) : ∃ x, x ∈ l ∧ atI (l.map e) r = some (e x) := by
  have hk : r.toNat < l.length := by omega
  refine ⟨l[r.toNat], List.getElem_mem _, ?_⟩
  have := atI_nat (xs := l.map e) (k := r.toNat) (x := e l[r.toNat]) (by simp [hk])
  rwa [show ((r.toNat : Nat) : Int) = r by omega] at this
/-! ### letters, items -/
def isLetterN (c : Nat) : Bool := (decide (97 ≤ c) && decide (c ≤ 122)) || ((decide (65 ≤ c) && decide (c ≤ 90)) || (decide (48 ≤ c) && decide (c ≤ 57)))
def hasSignsS (s signs : Str) : Bool := (decide (1 ≤ s.length) && decide (s.length ≤ 40)) && s.cps.toList.all fun c => isLetterN c || decide (c ∈ signs.cps.toList)
def itemSigns : Str := "_-/.:@"
theorem cdot : (Str.ofString ".").cps.toList = [46] := by decide +kernel
def isItemS (s : Str) : Bool := hasSignsS s itemSigns && (s.cps.toList.getLast? != some 46)
def isItemWord (d : PyData) : Bool := match d with
  | .str s => isItemS s
  | _ => false
def isIt (s : Str) : Prop := okS s = true ∧ isItemS s = true
def okc (c : Nat) : Bool := isLetterN c || decide (c ∈ itemSigns.cps.toList)
theorem isig : itemSigns.cps.toList = [95, 45, 47, 46, 58, 64] := by decide +kernel
theorem okc_lt {c : Nat} (h : okc c = true) : c < 0x110000 := by
  unfold okc isLetterN at h
  rw [isig] at h
  simp at h
  omega
theorem isIt_codes {cs : List Nat} (h1 : 1 ≤ cs.length) (h2 : cs.length ≤ 40) (h : ∀ c ∈ cs, okc c = true) (hl : cs.getLast? ≠ some 46) : isIt (ofL cs) := by
  refine ⟨okS_ofL (fun c hc => okc_lt (h c hc)) (by omega), ?_⟩
  unfold isItemS hasSignsS
  rw [ofL_len, ofL_l]
  simp only [Bool.and_eq_true, decide_eq_true_eq, bne_iff_ne]
  exact ⟨⟨⟨h1, h2⟩, List.all_eq_true.mpr h⟩, hl⟩
theorem areIt_all {xs : List Str} (h : ∀ s ∈ xs, isIt s) : (txs xs).all isItemWord = true := by
  rw [List.all_eq_true]
  intro d hd
  obtain ⟨s, hs, rfl⟩ := List.mem_map.mp hd
  exact (h s hs).2
theorem ok_txs {xs : List Str} (h : ∀ s ∈ xs, isIt s) : ∀ d ∈ txs xs, okD d = true := fun d hd => by
  obtain ⟨s, hs, rfl⟩ := List.mem_map.mp hd
  exact ok_str (h s hs).1
theorem dp_txs (xs : List Str) : ∀ d ∈ txs xs, d.depth ≤ 0 := fun d hd => by
  obtain ⟨s, _, rfl⟩ := List.mem_map.mp hd
  exact Nat.le_refl _
/-! ### strictly rising texts -/
def insS (x : Str) : List Str → List Str
  | [] => [x]
  | y :: l => if sLt x y then x :: y :: l else if x = y then y :: l else y :: insS x l
def riseF : List Str → List Str
  | [] => []
  | x :: l => insS x (riseF l)
theorem mem_insS {x s : Str} : ∀ {l : List Str}, s ∈ insS x l ↔ s = x ∨ s ∈ l
  | [] => by simp [insS]
  | y :: l => by
    unfold insS
    by_cases h1 : sLt x y
    · rw [if_pos h1]; simp
    · rw [if_neg h1]
      by_cases h2 : x = y
      · rw [if_pos h2]; subst h2; simp
      · rw [if_neg h2, List.mem_cons, mem_insS, List.mem_cons]
        constructor
        · rintro (a | a | a)
          · exact .inr (.inl a)
          · exact .inl a
          · exact .inr (.inr a)
        · rintro (a | a | a)
          · exact .inr (.inl a)
          · exact .inl a
          · exact .inr (.inr a)
theorem rise_insS {x : Str} : ∀ {l : List Str}, Rise l → Rise (insS x l)
  | [], _ => List.pairwise_singleton ..
  | y :: l, h => by
    obtain ⟨h1, h2⟩ := List.pairwise_cons.mp h
    unfold insS
    by_cases q1 : sLt x y
    · rw [if_pos q1]
      refine List.pairwise_cons.mpr ⟨fun b hb => ?_, h⟩
      rcases List.mem_cons.mp hb with rfl | hb
      · exact q1
      · exact sLt_trans q1 (h1 b hb)
    · rw [if_neg q1]
      by_cases q2 : x = y
      · rw [if_pos q2]; exact h
      · rw [if_neg q2]
        refine List.pairwise_cons.mpr ⟨fun b hb => ?_, rise_insS h2⟩
        rcases mem_insS.mp hb with rfl | hb
        · rcases sLt_tri b y with z | z | z
          · exact absurd z q1
          · exact absurd z q2
          · exact z
        · exact h1 b hb
theorem len_insS {x : Str} : ∀ {l : List Str}, (insS x l).length ≤ l.length + 1
  | [] => by simp [insS]
  | y :: l => by
    unfold insS
    split
    · simp
    · split
      · simp
      · have := len_insS (x := x) (l := l); simp only [List.length_cons]; omega
theorem rise_riseF : ∀ l : List Str, Rise (riseF l)
  | [] => .nil
  | x :: l => rise_insS (rise_riseF l)
theorem mem_riseF {s : Str} : ∀ {l : List Str}, s ∈ riseF l ↔ s ∈ l
  | [] => Iff.rfl
  | x :: l => by
    show s ∈ insS x (riseF l) ↔ _
    rw [mem_insS, mem_riseF, List.mem_cons]
theorem len_riseF : ∀ l : List Str, (riseF l).length ≤ l.length
  | [] => Nat.le_refl _
  | x :: l => by
    have h1 := len_insS (x := x) (l := riseF l)
    have h2 := len_riseF l
    show (insS x (riseF l)).length ≤ _
    simp only [List.length_cons]; omega
theorem riseF_eq {a b : List Str} (h : Rise a) (m : ∀ s, s ∈ a ↔ s ∈ b) : a = riseF b := rise_unique h (rise_riseF b) fun s => by rw [m, mem_riseF]
theorem riseF_id {a : List Str} (h : Rise a) : riseF a = a := (riseF_eq h fun _ => Iff.rfl).symm
/-! ### meanings -/
def kept (xs gs : List Str) : List Str := xs.filter fun s => decide (s ∉ gs)
theorem mem_kept {xs gs : List Str} {s : Str} (h : s ∈ kept xs gs) : s ∈ xs := (List.mem_filter.mp h).1
theorem len_kept (xs gs : List Str) : (kept xs gs).length ≤ xs.length := List.length_filter_le ..
def optT : Option (List Str) → PyData
  | none => .none
  | some l => .tuple (txs l)
inductive Mng where
  | c (v : Option (List Str)) (b : Bool)
  | a (bf dr bh : List Str) (df : Option (List Str)) (b : Bool)
def Mng.d : Mng → PyData
  | .c v b => .tuple [.str "const", optT v, .bool b]
  | .a bf dr bh df b => .tuple [.str "around", .tuple (txs bf), .tuple (txs dr), .tuple (txs bh), optT df, .bool b]
def Mng.locked : Mng → Bool
  | .c _ b => b
  | .a _ _ _ _ b => b
def Mng.nothing : Mng := .a [] [] [] none false
def Mng.single (w : Str) (xs : List Str) : Mng :=
  if w = "set" then .c (some xs) false else if w = "unset" then .c none false else if w = "append" then .a [] [] xs (some []) false else if w = "prepend" then .a xs [] [] (some []) false
  else if w = "drop" then .a [] (riseF xs) [] none false else if w = "default" then .a [] [] [] (some xs) false else .a [] [] [] none true
def Mng.after (f s : Mng) : Mng :=
  if f.locked then f else match s with
  | .c v b => .c v b
  | .a bf dr bh df b => match f with
    | .c none _ => .c (df.map fun d => bf ++ d ++ bh) b
    | .c (some v) _ => .c (some (bf ++ kept v dr ++ bh)) b
    | .a bf1 dr1 bh1 df1 _ => .a (bf ++ kept bf1 dr) (riseF (dr1 ++ dr)) (kept bh1 dr ++ bh) (match df1 with
      | none => df
      | some d => some (kept d dr)) b
def optL : Option (List Str) → List Str
  | none => []
  | some l => l
def Mng.items : Mng → List Str
  | .c v _ => optL v
  | .a bf dr bh df _ => bf ++ (dr ++ (bh ++ optL df))
/-- of items, with its dropped ones rising, with no words around a value that it does not know -/
def Mng.fit : Mng → Prop
  | .c _ _ => True
  | .a bf dr bh df _ => Rise dr ∧ (df = none → bf = [] ∧ bh = [])
structure Mng.Ok (n : Nat) (m : Mng) : Prop where
  its : ∀ s ∈ m.items, isIt s
  sz : m.items.length ≤ n
  fit : m.fit
theorem Mng.Ok.mono {n k : Nat} {m : Mng} (h : m.Ok n) (hk : n ≤ k) : m.Ok k := ⟨h.its, Nat.le_trans h.sz hk, h.fit⟩
theorem Mng.ok_nothing : Mng.nothing.Ok 0 := ⟨by simp [Mng.nothing, Mng.items, optL], by simp [Mng.nothing, Mng.items, optL], .nil, fun _ => ⟨rfl, rfl⟩⟩
theorem Mng.ok_single (w : Str) {xs : List Str} (h : ∀ s ∈ xs, isIt s) : (Mng.single w xs).Ok xs.length := by
  unfold Mng.single
  have hr : ∀ s ∈ riseF xs, isIt s := fun s hs => h s (mem_riseF.mp hs)
  split
  · exact ⟨h, Nat.le_refl _, trivial⟩
  split
  · exact ⟨by simp [Mng.items, optL], by simp [Mng.items, optL], trivial⟩
  split
  · exact ⟨by simpa [Mng.items, optL] using h, by simp [Mng.items, optL], .nil, fun z => by cases z⟩
  split
  · exact ⟨by simpa [Mng.items, optL] using h, by simp [Mng.items, optL], .nil, fun z => by cases z⟩
  split
  · exact ⟨by simpa [Mng.items, optL] using hr, by simpa [Mng.items, optL] using len_riseF xs, rise_riseF xs, fun _ => ⟨rfl, rfl⟩⟩
  split
  · exact ⟨by simpa [Mng.items, optL] using h, by simp [Mng.items, optL], .nil, fun z => by cases z⟩
  · exact ⟨by simp [Mng.items, optL], by simp [Mng.items, optL], .nil, fun _ => ⟨rfl, rfl⟩⟩
theorem Mng.ok_after {a b : Nat} {f s : Mng} (hf : f.Ok a) (hs : s.Ok b) : (f.after s).Ok (a + b) := by
  unfold Mng.after
  split
  · exact hf.mono (by omega)
  obtain ⟨s1, s2, s3⟩ := hs
  obtain ⟨f1, f2, f3⟩ := hf
  cases s with
  | c v bl => exact ⟨s1, Nat.le_trans s2 (Nat.le_add_left ..), s3⟩
  | a bf dr bh df bl =>
    simp only [Mng.items, List.mem_append, List.length_append] at s1 s2
    cases f with
    | c v fb =>
      cases v with
      | none =>
        cases df with
        | none => exact ⟨by simp [Mng.items, optL], by simp [Mng.items, optL], trivial⟩
        | some d =>
          refine ⟨fun t ht => s1 t ?_, ?_, trivial⟩
          · simp only [Mng.items, optL, Option.map_some, List.mem_append] at ht ⊢
            rcases ht with (h | h) | h
            · exact .inl h
            · exact .inr (.inr (.inr h))
            · exact .inr (.inr (.inl h))
          · simp only [Mng.items, optL, Option.map_some, List.length_append] at s2 ⊢
            omega
      | some v =>
        simp only [Mng.items, optL] at f1 f2
        refine ⟨fun t ht => ?_, ?_, trivial⟩
        · simp only [Mng.items, optL, List.mem_append] at ht
          rcases ht with (h | h) | h
          · exact s1 t (.inl h)
          · exact f1 t (mem_kept h)
          · exact s1 t (.inr (.inr (.inl h)))
        · have := len_kept v dr
          simp only [Mng.items, optL, List.length_append]
          omega
    | a bf1 dr1 bh1 df1 fb =>
      simp only [Mng.items, List.mem_append, List.length_append] at f1 f2
      have l1 := len_kept bf1 dr
      have l2 := len_kept bh1 dr
      have l3 := len_riseF (dr1 ++ dr)
      simp only [List.length_append] at l3
      have common : ∀ t, t ∈ bf ++ kept bf1 dr ∨ t ∈ riseF (dr1 ++ dr) ∨ t ∈ kept bh1 dr ++ bh → isIt t := fun t ht => by
        simp only [List.mem_append, mem_riseF] at ht
        rcases ht with (h | h) | (h | h) | (h | h)
        · exact s1 t (.inl h)
        · exact f1 t (.inl (mem_kept h))
        · exact f1 t (.inr (.inl h))
        · exact s1 t (.inr (.inl h))
        · exact f1 t (.inr (.inr (.inl (mem_kept h))))
        · exact s1 t (.inr (.inr (.inl h)))
      cases df1 with
      | none =>
        refine ⟨fun t ht => ?_, ?_, rise_riseF _, fun z => ?_⟩
        · simp only [Mng.items, List.mem_append] at ht
          rcases ht with h | h | h | h
          · exact common t (.inl (List.mem_append.mpr h))
          · exact common t (.inr (.inl h))
          · exact common t (.inr (.inr (List.mem_append.mpr h)))
          · exact s1 t (.inr (.inr (.inr h)))
        · simp only [Mng.items, List.length_append]
          omega
        · obtain ⟨h1, h2⟩ := s3.2 z
          obtain ⟨h3, h4⟩ := f3.2 rfl
          rw [h1, h2, h3, h4]
          exact ⟨rfl, rfl⟩
      | some d =>
        have l4 := len_kept d dr
        simp only [optL] at f1 f2
        refine ⟨fun t ht => ?_, ?_, rise_riseF _, fun z => by cases z⟩
        · simp only [Mng.items, optL, List.mem_append] at ht
          rcases ht with h | h | h | h
          · exact common t (.inl (List.mem_append.mpr h))
          · exact common t (.inr (.inl h))
          · exact common t (.inr (.inr (List.mem_append.mpr h)))
          · exact f1 t (.inr (.inr (.inr (mem_kept h))))
        · simp only [Mng.items, optL, List.length_append]
          omega
end DL
namespace DL
open PySem L2
def strsOf : PyData → List Str
  | .tuple l => l.filterMap fun x => match x with
    | .str s => some s
    | _ => none
  | _ => []
end DL

namespace DL
open PySem L2
/-! ### defs by facts -/
abbrev Fn (K : PySem.W.Frag) (x : Str) (st : Stmt) (f : Addr) (fd : FuncData) : Prop := FunD K x x (defArgs st) (defBody st) (defScope st) [] [] f fd
section
variable {P : Program} {w : World} {K : PySem.W.Frag} {mg : Str → Option Value} {base : Heap}
theorem fn_dlD {x : Str} {st : Stmt} {f : Addr} {fd : FuncData} {N ps : List Str} {k : Nat} {fs : FS} {u : WS} (F : Fn K x st f fd) (S : FnScope N ps (defScope st)) (len : ∀ as Q X, fs as Q X → as.length = ps.length)
    (der : ∀ (cdv : Value) (A : Around) (outer : List Env) (s : Shared) (H : Hp) (E : XK), Room k (A.deeper (PyProof.Rows.envOfC x (defScope st) s.heap.objs.size f cdv)) →
      DSs (cxOf (L2.CX P w) P w K mg base N x (defScope st) f cdv A outer s H E) (WD E) (defBody st) u)
    (wp : ∀ as Q X, fs as Q X → u (as ++ List.replicate (N.length - ps.length) Sl.no) (endP ps.length Q X)) : FnOk P w K mg base (L2.CX P w) (k + 1) f fd ps (spOf K mg fs) := by
  refine F.ok S (fun vs H Q E h => ?_) (fun cdv A outer s H vs Q E hr h => ⟨_, (der cdv A outer s H E hr).pss, ?_⟩)
  · obtain ⟨pin, F, as, Q', X', E1, _, h1, _⟩ := h
    have := E1.len
    rw [List.length_map] at this
    rw [this]
    exact len _ _ _ h1
  · exact fn_end len wp h
theorem ca_mk {x : Str} {st : Stmt} {f : Addr} {fd : FuncData} {N ps : List Str} {k : Nat} {fs : FS} {u : WS} (F : Fn K x st f fd) (S : FnScope N ps (defScope st)) (len : ∀ as Q X, fs as Q X → as.length = ps.length)
    (wp : ∀ as Q X, fs as Q X → u (as ++ List.replicate (N.length - ps.length) Sl.no) (endP ps.length Q X)) (hm : mg x = some (.ref f)) (b : Binds K fd ps [])
    (der : ∀ (cdv : Value) (A : Around) (outer : List Env) (s : Shared) (H : Hp) (E : XK), Room k (A.deeper (PyProof.Rows.envOfC x (defScope st) s.heap.objs.size f cdv)) →
      DSs (cxOf (L2.CX P w) P w K mg base N x (defScope st) f cdv A outer s H E) (WD E) (defBody st) u) : Ca P w K mg base x (k + 1) fs :=
  ⟨f, fd, ps, fn_dlD F S len der wp, hm, F.kp, b⟩
end
/-! ### the module's constants -/
def vV : Value → V
  | .bool b => .bl b
  | .int i _ => .int i
  | .str x _ => .str x
  | .ref a => .ref a
  | _ => .non
mutual
def cvB (K : PySem.W.Frag) (u : Value) : PyData → Bool
  | .none => decide (u = .none)
  | .bool b => decide (u = .bool b)
  | .int i => He.relB (.int i) u
  | .str x => He.relB (.str x) u
  | .list l => match u with
    | .ref a => (match K.lookup a with
      | some ⟨.type c, none, .seq its _, _⟩ => decide (c = "list") && (decide (its.size ≤ sizeLine) && cvsB K its.toList l)
      | _ => false)
    | _ => false
  | .tuple l => match u with
    | .ref a => (match K.lookup a with
      | some ⟨.type c, _, .seq its _, _⟩ => decide (c = "tuple") && (decide (its.size ≤ sizeLine) && cvsB K its.toList l)
      | _ => false)
    | _ => false
  | .dict _ => false
def cvsB (K : PySem.W.Frag) (us : List Value) : List PyData → Bool
  | [] => us.isEmpty
  | d :: ds => match us with
    | u :: us => cvB K u d && cvsB K us ds
    | [] => false
end
mutual
theorem cvB_ok {K : PySem.W.Frag} : ∀ (d : PyData) {u : Value}, cvB K u d = true → RelV (vV u) u ∧ ∀ H, Rep K H (vV u) d
  | .none, u, h => by
    simp only [cvB, decide_eq_true_eq] at h
    subst h
    exact ⟨rfl, fun _ => rfl⟩
  | .bool b, u, h => by
    simp only [cvB, decide_eq_true_eq] at h
    subst h
    exact ⟨rfl, fun _ => rfl⟩
  | .int i, u, h => by
    simp only [cvB] at h
    obtain ⟨t, e⟩ := He.relB_ok h
    subst e
    exact ⟨⟨t, rfl⟩, fun _ => rfl⟩
  | .str i, u, h => by
    simp only [cvB] at h
    obtain ⟨t, e⟩ := He.relB_ok h
    subst e
    exact ⟨⟨t, rfl⟩, fun _ => rfl⟩
  | .list l, u, h => by
    simp only [cvB] at h
    split at h
    · rename_i a
      split at h
      · rename_i c its sl n q
        simp only [Bool.and_eq_true, decide_eq_true_eq] at h
        obtain ⟨h1, h2, h3⟩ := h
        obtain ⟨p1, p2⟩ := cvsB_ok l h3
        exact ⟨rfl, fun H => ⟨a, its.toList.map vV, rfl, .inr ⟨_, its, _, q, congrArg Value.type h1, rfl, rfl, h2, p1⟩, p2 H⟩⟩
      · cases h
    · cases h
  | .tuple l, u, h => by
    simp only [cvB] at h
    split at h
    · rename_i a
      split at h
      · rename_i c od its n sl q
        simp only [Bool.and_eq_true, decide_eq_true_eq] at h
        obtain ⟨h1, h2, h3⟩ := h
        obtain ⟨p1, p2⟩ := cvsB_ok l h3
        exact ⟨rfl, fun H => ⟨a, its.toList.map vV, rfl, .inr ⟨_, its, _, q, congrArg Value.type h1, rfl, h2, p1⟩, p2 H⟩⟩
      · cases h
    · cases h
  | .dict l, u, h => by simp [cvB] at h
theorem cvsB_ok {K : PySem.W.Frag} : ∀ (ds : List PyData) {us : List Value}, cvsB K us ds = true → Vals (us.map vV) us ∧ ∀ H, Reps K H (us.map vV) ds
  | [], us, h => by
    simp only [cvsB, List.isEmpty_iff] at h
    subst h
    exact ⟨.nil, fun _ => rfl⟩
  | d :: ds, us, h => by
    simp only [cvsB] at h
    split at h
    · rename_i u us
      simp only [Bool.and_eq_true] at h
      obtain ⟨a1, a2⟩ := cvB_ok d h.1
      obtain ⟨b1, b2⟩ := cvsB_ok ds h.2
      exact ⟨.cons a1 b1, fun H => ⟨_, _, rfl, a2 H, b2 H⟩⟩
    · cases h
end
def gcB (K : PySem.W.Frag) (x : Str) (d : PyData) : Bool := match PySem.W.nsIn K mainGlobals x with
  | some (some u) => cvB K u d
  | _ => false
theorem gcB_ok {K : PySem.W.Frag} {h : Heap} {mg : Str → Option Value} (X : K.In h) (G : h.Ns mainGlobals mg) {x : Str} {d : PyData} (c : gcB K x d = true) : Gc K mg x d := by
  unfold gcB at c
  split at c
  · rename_i u q
    obtain ⟨a1, a2⟩ := cvB_ok d c
    exact ⟨_, u, PySem.W.mg_of X G q, a1, a2⟩
  · cases c
/-! ### the head's facts, constants with them -/
def obsC (cs : List (Str × PyData)) (fa : List He.Fa) (fn : List He.DefD) (K : PySem.W.Frag) : He.AlD := ((cs.all fun c => gcB K c.1 c.2) && (He.obsD fa fn K).1, (He.obsD fa fn K).2)
def SaysC (cs : List (Str × PyData)) (fa : List He.Fa) (fn : List He.DefD) (K : PySem.W.Frag) : Prop := obsC cs fa fn K = He.valD fn
def obsCG (n : Nat) (cs : List (Str × PyData)) (fa : List He.Fa) (fn : List He.DefD) (g : Addr → Option Obj) : He.AlD := obsC cs fa fn (He.frG g (He.asD g n))
def hookC (n : Nat) (cs : List (Str × PyData)) (fa : List He.Fa) (fn : List He.DefD) : PySem.W.Hook where
  α := He.AlD
  obs := fun s => obsCG n cs fa fn s.heap.get?
  val := fun _ => He.valD fn
  says := fun _ h => ∃ K : PySem.W.Frag, K.In h ∧ SaysC cs fa fn K
  of := fun _ _ e => ⟨_, He.frG_in, e⟩
  keeps := fun _ _ _ ⟨K, hK, c⟩ k => ⟨K, PySem.W.Frag.In.keeps hK k, c⟩
theorem obsCG_eq {n : Nat} {cs : List (Str × PyData)} {fa : List He.Fa} {fn : List He.DefD} {g : Addr → Option Obj} {s : Shared} (h : ∀ a, g a = s.heap.get? a) : obsCG n cs fa fn g = (hookC n cs fa fn).obs s := by
  have e : g = s.heap.get? := funext h
  rw [e] <;> rfl
section
variable {cs : List (Str × PyData)} {fa : List He.Fa} {fn : List He.DefD} {K : PySem.W.Frag}
theorem SaysC.d (c : SaysC cs fa fn K) : He.SaysD fa fn K := by
  have h1 := congrArg (fun z : He.AlD => z.1) c
  have h2 := congrArg (fun z : He.AlD => z.2) c
  have h3 : ((cs.all fun c => gcB K c.1 c.2) && (He.obsD fa fn K).1) = true := h1
  rw [Bool.and_eq_true] at h3
  exact Prod.ext h3.2 h2
theorem SaysC.cst (c : SaysC cs fa fn K) (i : Nat) {x : Str} {d : PyData} (h : cs[i]? = some (x, d) := by rfl) : gcB K x d = true := by
  have h1 := congrArg (fun z : He.AlD => z.1) c
  have h3 : ((cs.all fun c => gcB K c.1 c.2) && (He.obsD fa fn K).1) = true := h1
  rw [Bool.and_eq_true] at h3
  exact List.all_eq_true.mp h3.1 (x, d) (List.mem_of_getElem? h)
end
/-! ### the law's end -/
theorem walk_ofC {l : PySem.W.OpenLaw} {n k : Nat} {q : Program} {loose : List Str} {XP : (Str → Option Value) → Heap → Prop} {YP : World → Heap → Prop} {d : DefRec} {CX : World → CXT} {x : Str}
    (hn : l.most = some n) (hn2 : n ≤ sizeLine) (hdf : d.params.defaults = []) (hr : Room k callerA)
    (F : ∀ (w : World) (mg : Str → Option Value) (fa : Addr) (h : Heap), YP w h → h.Ns mainGlobals mg → mg d.name = some (.ref fa) →
      ∃ (K : PySem.W.Frag) (fd : FuncData) (sp : Sp), K.In h ∧ (∀ (s : Shared) (u : Value), BindsTo s fd ⟨[u], []⟩ [(x, u)]) ∧
        (∀ (H : Hp) (a : Addr) (ns : List Int), ns.length ≤ n → Only H → SqL K H a (ns.map V.int) → sp [.ref a] H (fun v _ => v = .bl true) fun _ _ _ => False) ∧
        ∀ base : Heap, K.In base → base.Ns mainGlobals mg → FnOk l.prog w K mg base (CX w) k fa fd [x] sp)
    (hCX : ∀ (w : World) (H : Hp) (s : Shared) (e : Value) (s' : Shared), CX w [] H s (fun _ _ _ => False) e s' → False) :
    PySem.W.WalkO q loose XP YP l.row.toRowW d [] (fun f vs => PySem.call f vs) := by
  refine Att.attach_call hn hdf fun w s₀ s₁ mg mb fa o pm cd doc a vs ns G Y ho hd hcd hmg hobj hints hlen hg => ?_
  obtain ⟨K, fd, sp, KX, hb, hsp, hF⟩ := F w mg fa _ Y G.T.g hmg
  exact law_call KX G.T.g G.T.b G.T.builtins G.T.nolimit hg hobj hints (Nat.le_trans hlen hn2) hr hF hb (fun H hO hS => hsp H a ns hlen hO hS) fun H e s' => hCX w H s₁ e s'
theorem cx_false {P : Program} (w : World) (H : Hp) (s : Shared) (e : Value) (s' : Shared) (h : L2.CX P w [] H s (fun _ _ _ => False) e s') : False := by
  obtain ⟨_, _, _, _, _, _, _, _, _, _, _, _, z⟩ := h
  exact z
theorem reps_ints {K : PySem.W.Frag} {H : Hp} : ∀ ns : List Int, Reps K H (ns.map V.int) (ns.map PyData.int)
  | [] => rfl
  | n :: ns => ⟨_, _, rfl, rfl, reps_ints ns⟩
/-- a law's promise from its def's spec -/
theorem law_sp {K : PySem.W.Frag} {mg : Str → Option Value} {fs : FS} {H : Hp} {a : Addr} {ns : List Int} (hS : SqL K H a (ns.map V.int))
    (h : fs [.v (.list (ns.map .int))] (fun r _ => r = .d (.bool true)) (fun _ => False)) : spOf K mg fs [.ref a] H (fun v _ => v = .bl true) fun _ _ _ => False := by
  refine ⟨fun _ => none, H, [.v (.list (ns.map .int))], _, _, ⟨Same.id H, rfl, fun i d e => ?_, fun i s l e hm => ?_, fun i p e => (by cases e), fun i l e => ?_, fun i j s t l m p e1 e2 m1 m2 => ?_, fun a o e _ => e, fun _ _ _ => rfl⟩, fun s hs l => ?_, h, ?_, ?_⟩
  · cases i with
    | zero => cases e; exact ⟨_, rfl, a, _, rfl, hS, reps_ints ns⟩
    | succ i => cases e
  · cases i with
    | zero => cases e; cases hm
    | succ i => cases e
  · cases i with
    | zero => cases e
    | succ i => cases e
  · cases i with
    | zero => cases e1; cases m1
    | succ i => cases e1
  · simp only [List.mem_singleton] at hs
    subst hs
    exact fun z => by cases z
  · rintro v r H' F' cs _ _ _ _ _ rr rfl
    exact rr
  · exact fun _ _ _ _ _ z => z.elim
end DL
namespace DL
open PySem L2
theorem takes0 {X : Cx} : Takes X WF := fun u s' ⟨_, _, _, _, _, _, _, _, _, _, _, _, _, _, _, _, z⟩ => z.elim
end DL

/-! sum(lists, []) -/
namespace DSum
open PySem PyProof.Rows
section
variable {prog : Program} {w : World} {A : Around} {E : Value → Shared → Prop} {s : Shared}
abbrev lstO (its : Array Value) : Obj := { cls := .type "list", data := .seq its 0 }
/-- two lists joined -/
theorem add_lists {a b : Addr} {xs ys : Array Value} {Q : Value → Shared → Prop} (ha : s.heap.IsList a xs) (hb : s.heap.IsList b ys) (hz : xs.size + ys.size ≤ sizeLine)
    (h : Q (.ref s.heap.objs.size) { s with heap := s.heap.push (seqObj "list" (xs ++ ys) 0) }) : wpAny (model prog w) A (binaryOp .Add (.ref a) (.ref b)) Q E s := by
  obtain ⟨⟨c1, d1, dt1, sl1⟩, e1, q1, n1, p1⟩ := id ha
  obtain ⟨⟨c2, d2, dt2, sl2⟩, e2, q2, n2, p2⟩ := id hb
  simp only at q1 p1 q2 p2
  subst q1 p1 q2 p2
  refine concat_meets ⟨_, e1, rfl⟩ ⟨_, e2, rfl⟩ noFill_list_add seq_list_add PySem.F.slot_list_add PySem.F.entry_list_add (PySem.F.args_list_add_2 _ _) (list_addW a b xs ys n1 n2 _ _ sl1 sl2 hz) ⟨e1, e2, ?_⟩
  exact h
end
section
variable {prog : Program} {w : World} {A : Around} {R : Result → Shared → Prop}
def cat : List (Array Value) → Array Value
  | [] => #[]
  | x :: l => x ++ cat l
/-- the loop: S holds the list so far, the list l at ax gives lists -/
theorem sum_loopL {I ax : Addr} {items : Array Value} (hh : A.handled = none) (hne : ax ≠ I) (S : Addr) (hSI : S ≠ I) (hSa : S ≠ ax) (xss : Nat → Array Value) (m : Nat) :
    ∀ (k i : Nat) (s : Shared) (acc : Addr) (ys : Array Value) (c : Nat), items.size - i = k → i ≤ items.size → s.heap.IsListIter I ax i → s.heap.IsList ax items → acc ≠ I → acc ≠ S → s.heap.IsList acc ys →
      s.heap.get? S = some { cls := .type "list", dict := none, data := .seq #[.ref acc] c, slots := #[] } →
      (∀ j, i ≤ j → j < items.size → ∃ a, items[j]? = some (.ref a) ∧ a ≠ I ∧ a ≠ S ∧ s.heap.IsList a (xss j)) →
      (∀ j, i ≤ j → j ≤ items.size → (ys ++ cat ((List.range' i (j - i)).map xss)).size ≤ sizeLine) →
      (∀ s' p, (∀ b o, b ≠ I → b ≠ S → s.heap.get? b = some o → s'.heap.get? b = some o) → s'.gens = s.gens → s'.os = s.os → s'.drawn = s.drawn → (k = 0 → p = acc) → (0 < k → s.heap.objs.size ≤ p) →
        s'.heap.IsList p (ys ++ cat ((List.range' i k).map xss)) → (0 < k → s'.heap.get? p = some (seqObj "list" (ys ++ cat ((List.range' i k).map xss)) 0)) → R (.ok (.ret (.ref p))) s') →
      codeAny (model prog w) A (.builtin "sum.loop" ⟨[.ref I, .ref S, rawInt 2, rawInt 0], []⟩) R s := by
  intro k
  induction k with
  | zero =>
    intro i s acc ys c hk hi hit hl haI haS hacc hS hex hz hR
    have hin : i = items.size := by omega
    subst hin
    refine codeAny_builtin F.entry_sum_loop ?_
    rw [Around.under_plainId F.plain_sum_loop _]
    show wpAny _ A.in1 (seqItems? (.ref S) >>= _) _ _ s
    refine wpAny_bind (wpAny_seqItems hS rfl ?_)
    show wpAny _ A.in1 (tryCatch (pyNext (.ref I)) _ >>= _) _ _ s
    refine wpAny_bind (wpAny_tryCatch (wpAny_pyNext_list_end hh hit hl (by simp) fun h' hm => ?_))
    refine wpAny_pure (hR _ acc (fun b o hbI _ e => hm b o hbI e) rfl rfl rfl (fun _ => rfl) (fun z => by cases z) ?_ (fun z => by cases z))
    obtain ⟨o, ho, r⟩ := hacc
    exact ⟨o, hm acc o haI ho, by simpa [cat] using r⟩
  | succ k ih =>
    intro i s acc ys c hk hi hit hl haI haS hacc hS hex hz hR
    have hlt : i < items.size := by omega
    refine codeAny_builtin F.entry_sum_loop ?_
    rw [Around.under_plainId F.plain_sum_loop _]
    show wpAny _ A.in1 (seqItems? (.ref S) >>= _) _ _ s
    refine wpAny_bind (wpAny_seqItems hS rfl ?_)
    show wpAny _ A.in1 (tryCatch (pyNext (.ref I)) _ >>= _) _ _ s
    obtain ⟨a, ha, hal, haS', hla⟩ := hex i (Nat.le_refl _) hlt
    refine wpAny_bind (wpAny_tryCatch (wpAny_pyNext_list_item hit hl ha fun h' hit' hm => ?_))
    obtain ⟨s', hs'⟩ : ∃ s' : Shared, s' = { s with heap := h' } := ⟨_, rfl⟩
    have keep : ∀ b o, b ≠ I → s.heap.get? b = some o → s'.heap.get? b = some o := fun b o hb e => by rw [hs']; exact hm.extBut b o hb e
    have hst' : s'.heap.IsListIter I ax (i + 1) ∧ s'.heap.IsList ax items := ⟨by rw [hs']; exact hit', by obtain ⟨o, e, r⟩ := hl; exact ⟨o, keep ax o hne e, r⟩⟩
    have hgens : s'.gens = s.gens ∧ s'.os = s.os ∧ s'.drawn = s.drawn := by rw [hs']; exact ⟨rfl, rfl, rfl⟩
    have hsize : s.heap.objs.size ≤ s'.heap.objs.size := by rw [hs']; exact Nat.le_of_eq hm.1.symm
    rw [← hs']
    have keepL : ∀ b zs, b ≠ I → s.heap.IsList b zs → s'.heap.IsList b zs := fun b zs hb ⟨o, e, r⟩ => ⟨o, keep b o hb e, r⟩
    have hS' := keep S _ hSI hS
    show wpAny _ A.in1 ((holding [Value.ref a] (binaryOp .Add (.ref acc) (.ref a))).attempt >>= _) _ _ _
    have hz1 := hz (i + 1) (by omega) (by omega)
    have e1 : (ys ++ cat ((List.range' i (i + 1 - i)).map xss)) = ys ++ xss i := by
      rw [show i + 1 - i = 1 by omega]
      simp [List.range'_succ, cat]
    rw [e1, Array.size_append] at hz1
    refine wpAny_bind (wpAny_attempt (wpAny_holding (add_lists (keepL acc ys haI hacc) (keepL a _ hal hla) hz1 ?_)))
    have hp : ∀ b u, s'.heap.get? b = some u → (s'.heap.push (seqObj "list" (ys ++ xss i) 0)).get? b = some u := fun b u e => Heap.get?_push_of_some _ e
    have hSp := hp S _ hS'
    show wpAny _ A.in1 (updateSeq S (fun _ => #[.ref s'.heap.objs.size]) >>= _) _ _ _
    refine wpAny_bind (wpAny_updateSeq hSp rfl ?_)
    have hS₂ := Heap.get?_update_self (Obj.mapSeq fun _ => #[Value.ref s'.heap.objs.size]) hSp rfl
    refine wpAny_bind (wpAny_letGo ?_)
    have hSlt : S < s'.heap.objs.size := Heap.lt_size hS'
    have hIlt : I < s'.heap.objs.size := by obtain ⟨_, e, _⟩ := hst'.1; exact Heap.lt_size e
    have gk : ∀ b u, b ≠ S → (s'.heap.push (seqObj "list" (ys ++ xss i) 0)).get? b = some u →
        (((s'.heap.push (seqObj "list" (ys ++ xss i) 0)).update S (Obj.mapSeq fun _ => #[Value.ref s'.heap.objs.size])).update S (Obj.mapSeq fun _ => #[Value.ref s'.heap.objs.size])).get? b = some u := fun b u hb e =>
      (Heap.get?_update_other _ _ (Ne.symm hb)).trans ((Heap.get?_update_other _ _ (Ne.symm hb)).trans e)
    refine wpAny_bind (wpAny_updateSeq hS₂ rfl (wpAny_pure ⟨plainId_quiet F.plain_sum_loop _, ih (i + 1) _ s'.heap.objs.size (ys ++ xss i) _ (by omega) (by omega) ?_ ?_ (Nat.ne_of_gt hIlt) (Nat.ne_of_gt hSlt) ?_ (Heap.get?_update_self (Obj.mapSeq fun _ => #[Value.ref s'.heap.objs.size]) hS₂ rfl) ?_ ?_ ?_⟩))
    · exact hst'.1.at fun o e => gk I o (Ne.symm hSI) (hp I o e)
    · exact hst'.2.at fun o e => gk ax o (Ne.symm hSa) (hp ax o e)
    · exact ⟨_, gk _ _ (Nat.ne_of_gt hSlt) (Heap.get?_push_size _ rfl), rfl, _, rfl⟩
    · intro j hj hj2
      obtain ⟨b, h1, h2, h3, h4⟩ := hex j (by omega) hj2
      refine ⟨b, h1, h2, h3, ?_⟩
      obtain ⟨o, e, r⟩ := keepL b _ h2 h4
      exact ⟨o, gk b o h3 (hp b o e), r⟩
    · intro j hj hj2
      have := hz j (by omega) hj2
      rw [show j - i = (j - (i + 1)) + 1 by omega, List.range'_succ] at this
      simpa only [List.map_cons, cat, Array.append_assoc] using this
    · intro s2 p h1 h2 h3 h4 h5 h6 h7 h8
      have sz : (((s'.heap.push (seqObj "list" (ys ++ xss i) 0)).update S (Obj.mapSeq fun _ => #[Value.ref s'.heap.objs.size])).update S (Obj.mapSeq fun _ => #[Value.ref s'.heap.objs.size])).objs.size = s'.heap.objs.size + 1 := by
        rw [Heap.size_update, Heap.size_update, size_push']
      have le := hsize
      refine hR s2 p (fun b o hb1 hb2 e => h1 b o hb1 hb2 (gk b o hb2 (hp b o (keep b o hb1 e)))) (h2.trans hgens.1) (h3.trans hgens.2.1) (h4.trans hgens.2.2) (fun z => by cases z) (fun _ => ?_) ?_ (fun _ => ?_)
      · by_cases hk0 : k = 0
        · rw [h5 hk0]; exact le
        · have := h6 (by omega)
          have e2 : s'.heap.objs.size + 1 ≤ p := by rw [← sz]; exact this
          omega
      · rw [List.range'_succ]
        simpa only [List.map_cons, cat, Array.append_assoc] using h7
      · rw [List.range'_succ]
        by_cases hk0 : k = 0
        · subst hk0
          rw [h5 rfl]
          have := h1 _ _ (Nat.ne_of_gt hIlt) (Nat.ne_of_gt hSlt) (gk _ _ (Nat.ne_of_gt hSlt) (Heap.get?_push_size _ rfl))
          simpa [cat] using this
        · simpa only [List.map_cons, cat, Array.append_assoc] using h8 (by omega)
end
theorem args_sum2 (a b : Value) : argsOk "sum" ⟨[a, b], []⟩ := by unfold argsOk; kernel_rfl
section
variable {prog : Program} {w : World} {A : Around} {E : Value → Shared → Prop} {s : Shared}
theorem call_sumL {x b0 : Addr} {items : Array Value} {Q : Value → Shared → Prop} (hh : A.handled = none) (hl : s.heap.IsList x items) (hb : s.heap.IsList b0 #[]) (xss : Nat → Array Value)
    (hex : ∀ j, j < items.size → ∃ a, items[j]? = some (.ref a) ∧ s.heap.IsList a (xss j)) (hn : 0 < items.size) (hz : ∀ j, j ≤ items.size → (cat ((List.range' 0 j).map xss)).size ≤ sizeLine)
    (h : ∀ s' p, (∀ b o, s.heap.get? b = some o → s'.heap.get? b = some o) → s'.gens = s.gens → s'.os = s.os → s.heap.objs.size ≤ p → s'.heap.get? p = some (seqObj "list" (cat ((List.range' 0 items.size).map xss)) 0) → Q (.ref p) s') :
    wpAny (model prog w) A (call (.builtin "sum") [.ref x, .ref b0]) Q E s := by
  have lt : ∀ {a : Addr} {zs : Array Value}, s.heap.IsList a zs → a < s.heap.objs.size := fun ⟨_, e, _⟩ => Heap.lt_size e
  refine call_function_tree F.kind_sum F.plain_sum F.entry_sum (args_sum2 _ _) ?_
  unfold Builtin.«sum»
  simp only [List.length_cons, List.length_nil]
  rw [if_neg (by decide)]
  refine wpAny_bind (wpAny_of_eq (show Builtin.Builtins.bindParams "sum" ["start"] 0 ⟨[Value.ref b0], []⟩ = pure [some (Value.ref b0)] from rfl) ?_)
  refine wpAny_bind (wpAny_pyIter_list hl ?_)
  refine wpAny_bind (wpAny_pure ?_)
  have hb1 := hb.push { cls := .type "list_iterator", data := .fields #[.ref x, .int 0 0] }
  have hT : ({ s with heap := s.heap.push { cls := .type "list_iterator", data := .fields #[.ref x, .int 0 0] } } : Shared).TypeIs (.ref b0) "list" := by
    obtain ⟨o, e, c, _⟩ := hb1
    exact ⟨o, e, c⟩
  simp only [List.forIn_cons, List.forIn_nil]
  refine wpAny_bind (wpAny_bind (wpAny_bind (wpAny_isInstance (T := "list") (b := false) hT F.sub_list_str ?_)))
  simp only [Bool.false_eq_true, if_false]
  refine wpAny_pure (wpAny_bind (wpAny_bind (wpAny_isInstance (T := "list") (b := false) hT F.sub_list_bytes ?_)))
  simp only [Bool.false_eq_true, if_false]
  refine wpAny_pure (wpAny_bind (wpAny_bind (wpAny_isInstance (T := "list") (b := false) hT F.sub_list_bytearray ?_)))
  simp only [Bool.false_eq_true, if_false]
  refine wpAny_pure (wpAny_pure ?_)
  refine wpAny_bind (wpAny_newObj_type ?_)
  have k : ∀ b o, s.heap.get? b = some o → ((s.heap.push { cls := .type "list_iterator", data := .fields #[.ref x, .int 0 0] }).push { cls := .type "list", data := .seq #[.ref b0] 0 }).get? b = some o := fun b o e => Heap.get?_push_of_some _ (Heap.get?_push_of_some _ e)
  have kl : ∀ {a : Addr} {zs : Array Value}, s.heap.IsList a zs → ((s.heap.push { cls := .type "list_iterator", data := .fields #[.ref x, .int 0 0] }).push { cls := .type "list", data := .seq #[.ref b0] 0 }).IsList a zs := fun ⟨o, e, r⟩ => ⟨o, k _ o e, r⟩
  have s1 : (s.heap.push { cls := .type "list_iterator", data := .fields #[.ref x, .int 0 0] }).objs.size = s.heap.objs.size + 1 := size_push' _ _
  refine wpAny_pure ⟨plainId_quiet F.plain_sum_loop _, ?_⟩
  show codeAny _ A (.builtin "sum.loop" ⟨[.ref s.heap.objs.size, .ref (s.heap.push { cls := .type "list_iterator", data := .fields #[.ref x, .int 0 0] }).objs.size, rawInt 2, rawInt 0], []⟩) _ _
  rw [s1]
  refine sum_loopL hh (Nat.ne_of_lt (lt hl)) (s.heap.objs.size + 1) (Nat.succ_ne_self _) (Nat.ne_of_gt (Nat.lt_succ_of_lt (lt hl))) xss 0 items.size 0 _ b0 #[] 0 (by omega) (by omega) ?_ (kl hl) (Nat.ne_of_lt (lt hb)) (Nat.ne_of_lt (Nat.lt_succ_of_lt (lt hb))) (kl hb) ?_ ?_ ?_ ?_
  · exact ⟨_, Heap.get?_push_of_some _ (Heap.get?_push_size _ rfl), rfl, rfl⟩
  · rw [← s1]; exact Heap.get?_push_size _ rfl
  · intro j _ hj
    obtain ⟨a, h1, h2⟩ := hex j hj
    exact ⟨a, h1, Nat.ne_of_lt (lt h2), Nat.ne_of_lt (Nat.lt_succ_of_lt (lt h2)), kl h2⟩
  · intro j _ hj
    simpa using hz j hj
  · intro s' p h1 h2 h3 h4 h5 h6 h7 h8
    refine h s' p (fun b o e => h1 b o (Nat.ne_of_lt (Heap.lt_size e)) (Nat.ne_of_lt (Nat.lt_succ_of_lt (Heap.lt_size e))) (k b o e)) h2 h3 ?_ (by simpa using h8 hn)
    have := h6 hn
    have s2 : ((s.heap.push { cls := .type "list_iterator", data := .fields #[.ref x, .int 0 0] }).push { cls := .type "list", data := .seq #[.ref b0] 0 }).objs.size = s.heap.objs.size + 2 := by rw [size_push', s1]
    have e2 : s.heap.objs.size + 2 ≤ p := by rw [← s2]; exact this
    exact Nat.le_trans (Nat.le_trans (Nat.le_succ _) (Nat.le_succ _)) e2
end
end DSum
namespace DL
open PySem L2 PySem.Spec PyProof.Rows
theorem vals_refs : ∀ {as : List Addr} {us : List Value}, Vals (as.map V.ref) us → us = as.map Value.ref
  | [], us, h => by cases h; rfl
  | a :: as, us, h => by
    rw [List.map_cons] at h
    cases h with
    | cons r t => cases r; rw [vals_refs t]; rfl
theorem cat_vals (K : PySem.W.Frag) (f : Nat → Array Value) : ∀ (xss : List (List V)) (i : Nat), (∀ j xs, xss[j]? = some xs → Vals xs (f (i + j)).toList) → Vals xss.flatten (DSum.cat ((List.range' i xss.length).map f)).toList
  | [], _, _ => .nil
  | xs :: r, i, h => by
    rw [List.length_cons, List.range'_succ, List.map_cons]
    show Vals (xs ++ r.flatten) (f i ++ DSum.cat ((List.range' (i + 1) r.length).map f)).toList
    rw [Array.toList_append]
    exact (h 0 xs rfl).append (cat_vals K f r (i + 1) fun j ys e => by
      have := h (j + 1) ys (by simpa using e)
      rwa [show i + (j + 1) = i + 1 + j by omega] at this)
theorem cat_size (f : Nat → Array Value) : ∀ (xss : List (List V)) (i k : Nat), (∀ j xs, xss[j]? = some xs → (f (i + j)).size = xs.length) → k ≤ xss.length → (DSum.cat ((List.range' i k).map f)).size ≤ (xss.map (·.length)).sum
  | _, _, 0, _, _ => by simp [DSum.cat]
  | [], _, k + 1, _, hk => by simp at hk
  | xs :: r, i, k + 1, h, hk => by
    rw [List.range'_succ, List.map_cons]
    have h0 := h 0 xs rfl
    have ih := cat_size f r (i + 1) k (fun j ys e => by
      have := h (j + 1) ys (by simpa using e)
      rwa [show i + (j + 1) = i + 1 + j by omega] at this) (by simpa using hk)
    simp only [DSum.cat, Array.size_append, List.map_cons, List.sum_cons, Nat.add_zero] at h0 ih ⊢
    omega
/-- sum(lists, []) -/
def rSumL (K : PySem.W.Frag) : List V → Hp → VK → Prop := fun vs H Q => ∃ (a b : Addr) (as : List Addr) (xss : List (List V)), vs = [V.ref a, V.ref b] ∧ SqL K H a (as.map V.ref) ∧ SqL K H b [] ∧ as.length = xss.length ∧
  (∀ (j : Nat) (p : Addr) (xs : List V), as[j]? = some p → xss[j]? = some xs → SqL K H p xs) ∧ 0 < as.length ∧ (xss.map (·.length)).sum ≤ 1000000 ∧ ∀ p, H p = none → Q (.ref p) (upd H p (.lst xss.flatten))
section
variable {X : Cx}
theorem cr_sumL (hc : X.calm = true) : CallR X (.builtin "sum") (rSumL X.K) := by
  intro pins s σ H vs us Q I r h
  obtain ⟨a, b, as, xss, rfl, ha, hb, hl, hx, hn, hz, q⟩ := h
  have eu : us = [Value.ref a, Value.ref b] := vals_refs (as := [a, b]) r
  rw [eu]
  have hd := I.ok.hd hc
  obtain ⟨its, rv, pl, _⟩ := I.list ha
  obtain ⟨itb, rb, pb, _⟩ := I.list hb
  have e1 := vals_refs rv
  subst e1
  cases rb
  have ex : ∀ j : Nat, ∃ arr : Array Value, ∀ xs, xss[j]? = some xs → Vals xs arr.toList ∧ s.heap.IsList (as.getD j 0) arr := fun j => by
    by_cases hj : j < xss.length
    · have h1 := hx j (as[j]'(by omega)) xss[j] (List.getElem?_eq_getElem (by omega)) (List.getElem?_eq_getElem hj)
      obtain ⟨it, rr, pp, _⟩ := I.list h1
      refine ⟨it.toArray, fun xs e => ?_⟩
      rw [List.getElem?_eq_getElem hj] at e
      obtain rfl := Option.some.inj e
      refine ⟨rr, ?_⟩
      simp only [List.getD, List.getElem?_eq_getElem (show j < as.length by omega), Option.getD_some]
      exact pp.isList
    · exact ⟨#[], fun xs e => by rw [List.getElem?_eq_none_iff.mpr (by omega)] at e; cases e⟩
  obtain ⟨f, hf⟩ := Classical.skolem.mp ex
  have sz : ∀ j xs, xss[j]? = some xs → (f (0 + j)).size = xs.length := fun j xs e => by
    rw [Nat.zero_add]
    have := (hf j xs e).1.length
    rw [this, Array.length_toList]
  have es0 : ((as.map Value.ref).toArray).size = xss.length := by simp [hl]
  refine DSum.call_sumL hd pl.isList pb.isList f (fun j hj => ?_) (by rw [es0]; omega) (fun j hj => ?_) fun s' p k1 g1 o1 hp hat => ?_
  · rw [es0] at hj
    refine ⟨as[j]'(by omega), by simp [show j < as.length by omega], ?_⟩
    have := (hf j xss[j] (List.getElem?_eq_getElem hj)).2
    simpa only [List.getD, List.getElem?_eq_getElem (show j < as.length by omega), Option.getD_some] using this
  · rw [es0] at hj
    exact Nat.le_trans (cat_size f xss 0 j sz hj) (Nat.le_trans hz (by decide))
  · rw [es0] at hat
    have hv := cat_vals X.K f xss 0 fun j xs e => by rw [Nat.zero_add]; exact (hf j xs e).1
    have small : xss.flatten.length ≤ sizeLine := by
      rw [List.length_flatten]
      exact Nat.le_trans hz (by decide)
    have free : H p = none := I.hok.fresh hp
    have J : Inv X pins σ (upd H p (.lst xss.flatten)) { s with heap := s'.heap, gens := s'.gens, drawn := s'.drawn, toks := s'.toks } :=
      I.call (ch := []) (Un.laid k1 hp free) (I.hok.laid k1 hp ⟨small, _, 0, hv, hat⟩) (by rw [g1]; exact I.bare) (fun _ z => nomatch z)
    have es : s' = { s with heap := s'.heap, gens := s'.gens, drawn := s'.drawn, toks := s'.toks } := by
      cases s'
      cases s
      cases o1
      rfl
    rw [es]
    exact ⟨.ref p, _, J, rfl, q p free⟩
end
/-- the lists that a list holds -/
def listsD : List PyData → Option (List (List PyData))
  | [] => some []
  | .list l :: r => (listsD r).map (l :: ·)
  | _ => none
def fSumL : FL := fun xs Q => match xs with
  | [.list ls, .list []] => ∃ lss, listsD ls = some lss ∧ 0 < lss.length ∧ (lss.map (·.length)).sum ≤ 1000000 ∧ Q (.o lss.flatten)
  | _ => False
theorem lists_reps {K : PySem.W.Frag} {F : Hp} : ∀ {ls : List PyData} {lss : List (List PyData)} {vs : List V}, listsD ls = some lss → Reps K F vs ls → ∃ (as : List Addr) (xss : List (List V)), vs = as.map V.ref ∧ as.length = xss.length ∧ xss.length = lss.length ∧
    (∀ (j : Nat) (p : Addr) (xs : List V), as[j]? = some p → xss[j]? = some xs → SqL K F p xs) ∧ Reps K F xss.flatten lss.flatten ∧ xss.map (·.length) = lss.map (·.length)
  | [], lss, vs, e, h => by
    cases e
    rw [show vs = [] from h]
    exact ⟨[], [], rfl, rfl, rfl, fun j p xs z => by simp at z, rfl, rfl⟩
  | .list l :: r, lss, vs, e, h => by
    have e' : (listsD r).map (l :: ·) = some lss := e
    obtain ⟨m, hm, rfl⟩ := Option.map_eq_some_iff.mp e'
    obtain ⟨v, ws, e1, ⟨a, us, e2, q1, q2⟩, h2⟩ := h
    obtain ⟨as, xss, g1, g2, g3, g4, g5, g6⟩ := lists_reps hm h2
    subst e1 e2 g1
    refine ⟨a :: as, us :: xss, rfl, by simp [g2], by simp [g3], fun j p xs hp hx => ?_, q2.append g5, by simp [g6, q2.len]⟩
    cases j with
    | zero =>
      simp at hp hx
      subst hp hx
      exact q1
    | succ j => exact g4 j p xs (by simpa using hp) (by simpa using hx)
  | .none :: _, _, _, e, _ => by cases e
  | .bool _ :: _, _, _, e, _ => by cases e
  | .int _ :: _, _, _, e, _ => by cases e
  | .str _ :: _, _, _, e, _ => by cases e
  | .tuple _ :: _, _, _, e, _ => by cases e
  | .dict _ :: _, _, _, e, _ => by cases e
theorem p_sumL {K : PySem.W.Frag} : PL K (rSumL K) fSumL := fun B F H σ Γ vs xs Q Kn E h hf k => by
  unfold fSumL at hf
  split at hf
  · rename_i ls
    obtain ⟨lss, el, hn, hz, q⟩ := hf
    obtain ⟨v, r, e1, h1, v2, r2, e2, h2, e3⟩ := h
    obtain ⟨a, ws, ea, sa, ra⟩ := h1
    obtain ⟨b, wb, eb, sb, rb⟩ := h2
    have : wb = [] := rb
    subst this
    have : r2 = [] := e3
    subst this e2 e1 ea eb
    obtain ⟨as, xss, g1, g2, g3, g4, g5, g6⟩ := lists_reps el ra
    subst g1
    exact ⟨a, b, as, xss, rfl, sa, sb, g2, fun j p xs hp hx => sql_mono E.ex (g4 j p xs hp hx), by omega, by rw [g6]; exact hz, fun p hp => k _ (.o lss.flatten) _ F (Same.id F) (E.layH hp) (rr_new E hp g5) q⟩
  · exact hf.elim
theorem F_sumL (Q : R → Prop) (ls : List PyData) : fSumL [.list ls, .list []] Q = ∃ lss, listsD ls = some lss ∧ 0 < lss.length ∧ (lss.map (·.length)).sum ≤ 1000000 ∧ Q (.o lss.flatten) := rfl
end DL

namespace DL
open PySem L2
def w_is_sequence : WS := (wRet (wIsi2 (wBor 0) "list" "tuple"))

def seqL : PyData → List PyData
  | .list l => l
  | .tuple l => l
  | _ => []
def isSeq : PyData → Bool
  | .list _ => true
  | .tuple _ => true
  | _ => false
def fs_is_sequence : FS := fun as Q _ => ∃ d, as = [.v d] ∧ Q (.d (.bool (isSeq d))) []
theorem l_is_sequence : ∀ as Q X, fs_is_sequence as Q X → as.length = 1 := by rintro as Q X ⟨d, rfl, _⟩; rfl
theorem m_is_sequence : ∀ as Q X, fs_is_sequence as Q X → w_is_sequence (as ++ List.replicate 0 Sl.no) (endP 1 Q X) := by
  rintro as Q X ⟨d, rfl, h⟩
  have e : (isA "list" d || isA "tuple" d) = isSeq d := by cases d <;> rfl
  simp only [w_is_sequence, wSeq, wIfS, wRet, wRetN, wNext, wBreak, wCont, wNever, wSet, wAsg, wPar, wExpr, wFor, wApp, wPop, wSetIx, wVar, wBor, wTake, wC, wBin, wNil, wCons, wPrim, wCall, wTup, wLst, wSl, wNone, wSome, wM0, wM1, wB, wAndT, wOrT, wNotT, wAndV, wOrV, wNotV, wIf, wIsi, wIsi2, wNeg, wChain, wSortedSet, X_txl, X_txt, wIt, wIt.rdf, wRng1, wRng2, wLc, wYes, lcS, wipeG, backG, noMut, rd_d, rd_o, rd_b, rdf_d, rdf_o, fz_d, fz_o, fz_b, sl_d, sl_o, ok_d, ok_o, argSl_d, argSl_o, argSl_b, items_l, items_t, items_s, rds, rdF, stOk_eq, ncO_some, nc_v, nc_own, nc_no, stOks, setAll, wG, mutAt, putAt, Sl.mu, Sl.put, argSls, noB, fewB, putB, endP, cellsOf, cellF, List.getElem?_cons_zero, List.getElem?_cons_succ, List.getElem?_nil, List.set_cons_zero, List.set_cons_succ, List.append_eq, List.nil_append, List.cons_append, List.replicate, List.take_succ_cons, List.take_zero, List.take_nil, List.filterMap_cons, List.filterMap_nil, Option.map_some, Option.map_none, List.length_cons, List.length_nil, e]
  exact ⟨trivial, h⟩

def w_frozen_1 : WS := (wRet (wTake 0))
def w_frozen (fs_rec : FS) : WS := (wSeq (wIfS (wB (wCall (fs_is_sequence) (wCons (wVar 0) wNil))) (wRet (wPrim fToTup (wCons (wLc (wIt (wVar 0)) (.n 1) wYes (wCall fs_rec (wCons (wVar 1) wNil)) [1]) wNil))) wNext) w_frozen_1)

mutual
def frozenD : PyData → PyData
  | .tuple l => .tuple (frozenL l)
  | .list l => .tuple (frozenL l)
  | .none => .none
  | .bool b => .bool b
  | .int i => .int i
  | .str s => .str s
  | .dict l => .dict l
def frozenL : List PyData → List PyData
  | [] => []
  | x :: xs => frozenD x :: frozenL xs
end
theorem frozenL_map : ∀ l : List PyData, frozenL l = l.map frozenD
  | [] => by simp [frozenL]
  | x :: xs => by simp only [frozenL, List.map_cons, frozenL_map xs]
def fsr_frozen (n : Nat) : FS := fun as Q _ => ∃ d : PyData, as = [.v d] ∧ d.depth < n ∧ okD d = true ∧ Q (.d (frozenD d)) []
abbrev fs_frozen : FS := fsr_frozen 12
theorem z_frozen : ∀ as Q X, ¬ fsr_frozen 0 as Q X := by rintro as Q X ⟨x, _, h, _⟩; omega
theorem l_frozen (n : Nat) : ∀ as Q X, fsr_frozen n as Q X → as.length = 1 := by rintro as Q X ⟨_, rfl, _⟩; rfl
theorem m_frozen (n : Nat) : ∀ as Q X, fsr_frozen (n + 1) as Q X → w_frozen (fsr_frozen n) (as ++ List.replicate 1 Sl.no) (endP 1 Q X) := by
  rintro as Q X ⟨d, rfl, hd, ok, h⟩
  cases d with
  | tuple l =>
    simp only [w_frozen, fs_is_sequence, wSeq, wIfS, wRet, wRetN, wNext, wBreak, wCont, wNever, wSet, wAsg, wPar, wExpr, wFor, wApp, wPop, wSetIx, wVar, wBor, wTake, wC, wBin, wNil, wCons, wPrim, wCall, wTup, wLst, wSl, wNone, wSome, wM0, wM1, wB, wAndT, wOrT, wNotT, wAndV, wOrV, wNotV, wIf, wIsi, wIsi2, wNeg, wChain, wSortedSet, X_txl, X_txt, wIt, wIt.rdf, wRng1, wRng2, wLc, wYes, lcS, wipeG, backG, noMut, rd_d, rd_o, rd_b, rdf_d, rdf_o, fz_d, fz_o, fz_b, sl_d, sl_o, ok_d, ok_o, argSl_d, argSl_o, argSl_b, items_l, items_t, items_s, rds, rdF, stOk_eq, ncO_some, nc_v, nc_own, nc_no, stOks, setAll, wG, mutAt, putAt, Sl.mu, Sl.put, argSls, noB, fewB, putB, endP, cellsOf, cellF, List.getElem?_cons_zero, List.getElem?_cons_succ, List.getElem?_nil, List.set_cons_zero, List.set_cons_succ, List.append_eq, List.nil_append, List.cons_append, List.replicate, List.take_succ_cons, List.take_zero, List.take_nil, List.filterMap_cons, List.filterMap_nil, Option.map_some, Option.map_none, List.length_cons, List.length_nil, F_add_i, F_add_s, F_add_l, F_add_t, F_int, F_cmp_i, F_cmp_s, F_in_l, F_in_t, F_in_s, F_ix_l, F_ix_t, F_ix_s, F_sl_l, F_sl_t, F_sl_s, F_len_l, F_len_t, F_len_s, F_toInt, F_toStr, F_toTup_l, F_toTup_t, F_toLst_l, F_toLst_t, F_all, F_any, F_split, F_join_l, F_join_t, F_part, F_start, F_end, F_strip, F_sorted_l, F_sorted_t, N_none, N_str, N_int, N_bool, N_tup, N_lst, S_str, S_none, S_int, S_bool, S_tup, S_lst, I_str, I_none, I_int, I_bool, I_tup, I_lst, B_str, B_none, B_int, B_bool, B_tup, B_lst, T_str, T_none, T_int, T_bool, T_tup, T_lst, L_str, L_none, L_int, L_bool, L_tup, L_lst, D_str, D_none, D_int, D_bool, D_tup, D_lst, N_dic, S_dic, I_dic, B_dic, T_dic, L_dic, D_dic, E_ss, E_ii, E_bb, E_ns, E_is, E_bs, E_nn, isA_str, isA_int, isA_bool, isA_tuple, isA_list, isA_dict, fEq, fNe, fIsN, fNotN, eqv_str, eqv_int, eqv_bool, exists_eq_left', exists_eq_left, exists_and_left, R.d.injEq, R.o.injEq, PyData.bool.injEq, PyData.str.injEq, PyData.int.injEq, PyData.tuple.injEq, PyData.list.injEq, List.cons.injEq, Option.some.injEq, and_true, true_and, and_self, Bool.not_true, Bool.not_false, Bool.false_eq_true, Bool.true_eq_false, Bool.true_and, Bool.false_and, Bool.true_or, Bool.false_or, if_true, if_false, reduceIte, reduceCtorEq, not_false_eq_true, ne_eq, true_or, or_true, false_or, or_false, List.map_nil, List.map_cons, Option.toList_some, Option.toList_none, false_and, and_false, Bool.not_eq_true, Bool.or_false, Bool.or_true, Bool.and_true, Bool.and_false]
    refine ⟨_, rfl, ?_⟩
    simp only [isSeq, exists_eq_left', exists_eq_left, exists_and_left, R.d.injEq, R.o.injEq, PyData.bool.injEq, PyData.str.injEq, PyData.int.injEq, PyData.tuple.injEq, PyData.list.injEq, List.cons.injEq, Option.some.injEq, and_true, true_and, and_self, Bool.not_true, Bool.not_false, Bool.false_eq_true, Bool.true_eq_false, Bool.true_and, Bool.false_and, Bool.true_or, Bool.false_or, if_true, if_false, reduceIte, reduceCtorEq, not_false_eq_true, ne_eq, true_or, or_true, false_or, or_false, List.map_nil, List.map_cons, Option.toList_some, Option.toList_none, false_and, and_false, Bool.not_eq_true, Bool.or_false, Bool.or_true, Bool.and_true, Bool.and_false]
    refine ⟨lz (len_tup ok), lcI_map frozenD (fun x hx Kn kn => ?_) ?_⟩
    · simp only [fsr_frozen, wSeq, wIfS, wRet, wRetN, wNext, wBreak, wCont, wNever, wSet, wAsg, wPar, wExpr, wFor, wApp, wPop, wSetIx, wVar, wBor, wTake, wC, wBin, wNil, wCons, wPrim, wCall, wTup, wLst, wSl, wNone, wSome, wM0, wM1, wB, wAndT, wOrT, wNotT, wAndV, wOrV, wNotV, wIf, wIsi, wIsi2, wNeg, wChain, wSortedSet, X_txl, X_txt, wIt, wIt.rdf, wRng1, wRng2, wLc, wYes, lcS, wipeG, backG, noMut, rd_d, rd_o, rd_b, rdf_d, rdf_o, fz_d, fz_o, fz_b, sl_d, sl_o, ok_d, ok_o, argSl_d, argSl_o, argSl_b, items_l, items_t, items_s, rds, rdF, stOk_eq, ncO_some, nc_v, nc_own, nc_no, stOks, setAll, wG, mutAt, putAt, Sl.mu, Sl.put, argSls, noB, fewB, putB, endP, cellsOf, cellF, List.getElem?_cons_zero, List.getElem?_cons_succ, List.getElem?_nil, List.set_cons_zero, List.set_cons_succ, List.append_eq, List.nil_append, List.cons_append, List.replicate, List.take_succ_cons, List.take_zero, List.take_nil, List.filterMap_cons, List.filterMap_nil, Option.map_some, Option.map_none, List.length_cons, List.length_nil, F_add_i, F_add_s, F_add_l, F_add_t, F_int, F_cmp_i, F_cmp_s, F_in_l, F_in_t, F_in_s, F_ix_l, F_ix_t, F_ix_s, F_sl_l, F_sl_t, F_sl_s, F_len_l, F_len_t, F_len_s, F_toInt, F_toStr, F_toTup_l, F_toTup_t, F_toLst_l, F_toLst_t, F_all, F_any, F_split, F_join_l, F_join_t, F_part, F_start, F_end, F_strip, F_sorted_l, F_sorted_t, N_none, N_str, N_int, N_bool, N_tup, N_lst, S_str, S_none, S_int, S_bool, S_tup, S_lst, I_str, I_none, I_int, I_bool, I_tup, I_lst, B_str, B_none, B_int, B_bool, B_tup, B_lst, T_str, T_none, T_int, T_bool, T_tup, T_lst, L_str, L_none, L_int, L_bool, L_tup, L_lst, D_str, D_none, D_int, D_bool, D_tup, D_lst, N_dic, S_dic, I_dic, B_dic, T_dic, L_dic, D_dic, E_ss, E_ii, E_bb, E_ns, E_is, E_bs, E_nn, isA_str, isA_int, isA_bool, isA_tuple, isA_list, isA_dict, fEq, fNe, fIsN, fNotN, eqv_str, eqv_int, eqv_bool, exists_eq_left', exists_eq_left, exists_and_left, R.d.injEq, R.o.injEq, PyData.bool.injEq, PyData.str.injEq, PyData.int.injEq, PyData.tuple.injEq, PyData.list.injEq, List.cons.injEq, Option.some.injEq, and_true, true_and, and_self, Bool.not_true, Bool.not_false, Bool.false_eq_true, Bool.true_eq_false, Bool.true_and, Bool.false_and, Bool.true_or, Bool.false_or, if_true, if_false, reduceIte, reduceCtorEq, not_false_eq_true, ne_eq, true_or, or_true, false_or, or_false, List.map_nil, List.map_cons, Option.toList_some, Option.toList_none, false_and, and_false, Bool.not_eq_true, Bool.or_false, Bool.or_true, Bool.and_true, Bool.and_false]
      refine ⟨x, rfl, ?_, of_tup ok x hx, kn⟩
      have := depth_mem hx
      simp only [PyData.depth] at hd
      omega
    · simp only [wSeq, wIfS, wRet, wRetN, wNext, wBreak, wCont, wNever, wSet, wAsg, wPar, wExpr, wFor, wApp, wPop, wSetIx, wVar, wBor, wTake, wC, wBin, wNil, wCons, wPrim, wCall, wTup, wLst, wSl, wNone, wSome, wM0, wM1, wB, wAndT, wOrT, wNotT, wAndV, wOrV, wNotV, wIf, wIsi, wIsi2, wNeg, wChain, wSortedSet, X_txl, X_txt, wIt, wIt.rdf, wRng1, wRng2, wLc, wYes, lcS, wipeG, backG, noMut, rd_d, rd_o, rd_b, rdf_d, rdf_o, fz_d, fz_o, fz_b, sl_d, sl_o, ok_d, ok_o, argSl_d, argSl_o, argSl_b, items_l, items_t, items_s, rds, rdF, stOk_eq, ncO_some, nc_v, nc_own, nc_no, stOks, setAll, wG, mutAt, putAt, Sl.mu, Sl.put, argSls, noB, fewB, putB, endP, cellsOf, cellF, List.getElem?_cons_zero, List.getElem?_cons_succ, List.getElem?_nil, List.set_cons_zero, List.set_cons_succ, List.append_eq, List.nil_append, List.cons_append, List.replicate, List.take_succ_cons, List.take_zero, List.take_nil, List.filterMap_cons, List.filterMap_nil, Option.map_some, Option.map_none, List.length_cons, List.length_nil, F_add_i, F_add_s, F_add_l, F_add_t, F_int, F_cmp_i, F_cmp_s, F_in_l, F_in_t, F_in_s, F_ix_l, F_ix_t, F_ix_s, F_sl_l, F_sl_t, F_sl_s, F_len_l, F_len_t, F_len_s, F_toInt, F_toStr, F_toTup_l, F_toTup_t, F_toLst_l, F_toLst_t, F_all, F_any, F_split, F_join_l, F_join_t, F_part, F_start, F_end, F_strip, F_sorted_l, F_sorted_t, N_none, N_str, N_int, N_bool, N_tup, N_lst, S_str, S_none, S_int, S_bool, S_tup, S_lst, I_str, I_none, I_int, I_bool, I_tup, I_lst, B_str, B_none, B_int, B_bool, B_tup, B_lst, T_str, T_none, T_int, T_bool, T_tup, T_lst, L_str, L_none, L_int, L_bool, L_tup, L_lst, D_str, D_none, D_int, D_bool, D_tup, D_lst, N_dic, S_dic, I_dic, B_dic, T_dic, L_dic, D_dic, E_ss, E_ii, E_bb, E_ns, E_is, E_bs, E_nn, isA_str, isA_int, isA_bool, isA_tuple, isA_list, isA_dict, fEq, fNe, fIsN, fNotN, eqv_str, eqv_int, eqv_bool, exists_eq_left', exists_eq_left, exists_and_left, R.d.injEq, R.o.injEq, PyData.bool.injEq, PyData.str.injEq, PyData.int.injEq, PyData.tuple.injEq, PyData.list.injEq, List.cons.injEq, Option.some.injEq, and_true, true_and, and_self, Bool.not_true, Bool.not_false, Bool.false_eq_true, Bool.true_eq_false, Bool.true_and, Bool.false_and, Bool.true_or, Bool.false_or, if_true, if_false, reduceIte, reduceCtorEq, not_false_eq_true, ne_eq, true_or, or_true, false_or, or_false, List.map_nil, List.map_cons, Option.toList_some, Option.toList_none, false_and, and_false, Bool.not_eq_true, Bool.or_false, Bool.or_true, Bool.and_true, Bool.and_false]
      rw [← frozenL_map]
      simpa only [frozenD] using h
  | list l =>
    simp only [w_frozen, fs_is_sequence, wSeq, wIfS, wRet, wRetN, wNext, wBreak, wCont, wNever, wSet, wAsg, wPar, wExpr, wFor, wApp, wPop, wSetIx, wVar, wBor, wTake, wC, wBin, wNil, wCons, wPrim, wCall, wTup, wLst, wSl, wNone, wSome, wM0, wM1, wB, wAndT, wOrT, wNotT, wAndV, wOrV, wNotV, wIf, wIsi, wIsi2, wNeg, wChain, wSortedSet, X_txl, X_txt, wIt, wIt.rdf, wRng1, wRng2, wLc, wYes, lcS, wipeG, backG, noMut, rd_d, rd_o, rd_b, rdf_d, rdf_o, fz_d, fz_o, fz_b, sl_d, sl_o, ok_d, ok_o, argSl_d, argSl_o, argSl_b, items_l, items_t, items_s, rds, rdF, stOk_eq, ncO_some, nc_v, nc_own, nc_no, stOks, setAll, wG, mutAt, putAt, Sl.mu, Sl.put, argSls, noB, fewB, putB, endP, cellsOf, cellF, List.getElem?_cons_zero, List.getElem?_cons_succ, List.getElem?_nil, List.set_cons_zero, List.set_cons_succ, List.append_eq, List.nil_append, List.cons_append, List.replicate, List.take_succ_cons, List.take_zero, List.take_nil, List.filterMap_cons, List.filterMap_nil, Option.map_some, Option.map_none, List.length_cons, List.length_nil, F_add_i, F_add_s, F_add_l, F_add_t, F_int, F_cmp_i, F_cmp_s, F_in_l, F_in_t, F_in_s, F_ix_l, F_ix_t, F_ix_s, F_sl_l, F_sl_t, F_sl_s, F_len_l, F_len_t, F_len_s, F_toInt, F_toStr, F_toTup_l, F_toTup_t, F_toLst_l, F_toLst_t, F_all, F_any, F_split, F_join_l, F_join_t, F_part, F_start, F_end, F_strip, F_sorted_l, F_sorted_t, N_none, N_str, N_int, N_bool, N_tup, N_lst, S_str, S_none, S_int, S_bool, S_tup, S_lst, I_str, I_none, I_int, I_bool, I_tup, I_lst, B_str, B_none, B_int, B_bool, B_tup, B_lst, T_str, T_none, T_int, T_bool, T_tup, T_lst, L_str, L_none, L_int, L_bool, L_tup, L_lst, D_str, D_none, D_int, D_bool, D_tup, D_lst, N_dic, S_dic, I_dic, B_dic, T_dic, L_dic, D_dic, E_ss, E_ii, E_bb, E_ns, E_is, E_bs, E_nn, isA_str, isA_int, isA_bool, isA_tuple, isA_list, isA_dict, fEq, fNe, fIsN, fNotN, eqv_str, eqv_int, eqv_bool, exists_eq_left', exists_eq_left, exists_and_left, R.d.injEq, R.o.injEq, PyData.bool.injEq, PyData.str.injEq, PyData.int.injEq, PyData.tuple.injEq, PyData.list.injEq, List.cons.injEq, Option.some.injEq, and_true, true_and, and_self, Bool.not_true, Bool.not_false, Bool.false_eq_true, Bool.true_eq_false, Bool.true_and, Bool.false_and, Bool.true_or, Bool.false_or, if_true, if_false, reduceIte, reduceCtorEq, not_false_eq_true, ne_eq, true_or, or_true, false_or, or_false, List.map_nil, List.map_cons, Option.toList_some, Option.toList_none, false_and, and_false, Bool.not_eq_true, Bool.or_false, Bool.or_true, Bool.and_true, Bool.and_false]
    refine ⟨_, rfl, ?_⟩
    simp only [isSeq, exists_eq_left', exists_eq_left, exists_and_left, R.d.injEq, R.o.injEq, PyData.bool.injEq, PyData.str.injEq, PyData.int.injEq, PyData.tuple.injEq, PyData.list.injEq, List.cons.injEq, Option.some.injEq, and_true, true_and, and_self, Bool.not_true, Bool.not_false, Bool.false_eq_true, Bool.true_eq_false, Bool.true_and, Bool.false_and, Bool.true_or, Bool.false_or, if_true, if_false, reduceIte, reduceCtorEq, not_false_eq_true, ne_eq, true_or, or_true, false_or, or_false, List.map_nil, List.map_cons, Option.toList_some, Option.toList_none, false_and, and_false, Bool.not_eq_true, Bool.or_false, Bool.or_true, Bool.and_true, Bool.and_false]
    refine ⟨lz (len_lst ok), lcI_map frozenD (fun x hx Kn kn => ?_) ?_⟩
    · simp only [fsr_frozen, wSeq, wIfS, wRet, wRetN, wNext, wBreak, wCont, wNever, wSet, wAsg, wPar, wExpr, wFor, wApp, wPop, wSetIx, wVar, wBor, wTake, wC, wBin, wNil, wCons, wPrim, wCall, wTup, wLst, wSl, wNone, wSome, wM0, wM1, wB, wAndT, wOrT, wNotT, wAndV, wOrV, wNotV, wIf, wIsi, wIsi2, wNeg, wChain, wSortedSet, X_txl, X_txt, wIt, wIt.rdf, wRng1, wRng2, wLc, wYes, lcS, wipeG, backG, noMut, rd_d, rd_o, rd_b, rdf_d, rdf_o, fz_d, fz_o, fz_b, sl_d, sl_o, ok_d, ok_o, argSl_d, argSl_o, argSl_b, items_l, items_t, items_s, rds, rdF, stOk_eq, ncO_some, nc_v, nc_own, nc_no, stOks, setAll, wG, mutAt, putAt, Sl.mu, Sl.put, argSls, noB, fewB, putB, endP, cellsOf, cellF, List.getElem?_cons_zero, List.getElem?_cons_succ, List.getElem?_nil, List.set_cons_zero, List.set_cons_succ, List.append_eq, List.nil_append, List.cons_append, List.replicate, List.take_succ_cons, List.take_zero, List.take_nil, List.filterMap_cons, List.filterMap_nil, Option.map_some, Option.map_none, List.length_cons, List.length_nil, F_add_i, F_add_s, F_add_l, F_add_t, F_int, F_cmp_i, F_cmp_s, F_in_l, F_in_t, F_in_s, F_ix_l, F_ix_t, F_ix_s, F_sl_l, F_sl_t, F_sl_s, F_len_l, F_len_t, F_len_s, F_toInt, F_toStr, F_toTup_l, F_toTup_t, F_toLst_l, F_toLst_t, F_all, F_any, F_split, F_join_l, F_join_t, F_part, F_start, F_end, F_strip, F_sorted_l, F_sorted_t, N_none, N_str, N_int, N_bool, N_tup, N_lst, S_str, S_none, S_int, S_bool, S_tup, S_lst, I_str, I_none, I_int, I_bool, I_tup, I_lst, B_str, B_none, B_int, B_bool, B_tup, B_lst, T_str, T_none, T_int, T_bool, T_tup, T_lst, L_str, L_none, L_int, L_bool, L_tup, L_lst, D_str, D_none, D_int, D_bool, D_tup, D_lst, N_dic, S_dic, I_dic, B_dic, T_dic, L_dic, D_dic, E_ss, E_ii, E_bb, E_ns, E_is, E_bs, E_nn, isA_str, isA_int, isA_bool, isA_tuple, isA_list, isA_dict, fEq, fNe, fIsN, fNotN, eqv_str, eqv_int, eqv_bool, exists_eq_left', exists_eq_left, exists_and_left, R.d.injEq, R.o.injEq, PyData.bool.injEq, PyData.str.injEq, PyData.int.injEq, PyData.tuple.injEq, PyData.list.injEq, List.cons.injEq, Option.some.injEq, and_true, true_and, and_self, Bool.not_true, Bool.not_false, Bool.false_eq_true, Bool.true_eq_false, Bool.true_and, Bool.false_and, Bool.true_or, Bool.false_or, if_true, if_false, reduceIte, reduceCtorEq, not_false_eq_true, ne_eq, true_or, or_true, false_or, or_false, List.map_nil, List.map_cons, Option.toList_some, Option.toList_none, false_and, and_false, Bool.not_eq_true, Bool.or_false, Bool.or_true, Bool.and_true, Bool.and_false]
      refine ⟨x, rfl, ?_, of_lst ok x hx, kn⟩
      have := depth_mem hx
      simp only [PyData.depth] at hd
      omega
    · simp only [wSeq, wIfS, wRet, wRetN, wNext, wBreak, wCont, wNever, wSet, wAsg, wPar, wExpr, wFor, wApp, wPop, wSetIx, wVar, wBor, wTake, wC, wBin, wNil, wCons, wPrim, wCall, wTup, wLst, wSl, wNone, wSome, wM0, wM1, wB, wAndT, wOrT, wNotT, wAndV, wOrV, wNotV, wIf, wIsi, wIsi2, wNeg, wChain, wSortedSet, X_txl, X_txt, wIt, wIt.rdf, wRng1, wRng2, wLc, wYes, lcS, wipeG, backG, noMut, rd_d, rd_o, rd_b, rdf_d, rdf_o, fz_d, fz_o, fz_b, sl_d, sl_o, ok_d, ok_o, argSl_d, argSl_o, argSl_b, items_l, items_t, items_s, rds, rdF, stOk_eq, ncO_some, nc_v, nc_own, nc_no, stOks, setAll, wG, mutAt, putAt, Sl.mu, Sl.put, argSls, noB, fewB, putB, endP, cellsOf, cellF, List.getElem?_cons_zero, List.getElem?_cons_succ, List.getElem?_nil, List.set_cons_zero, List.set_cons_succ, List.append_eq, List.nil_append, List.cons_append, List.replicate, List.take_succ_cons, List.take_zero, List.take_nil, List.filterMap_cons, List.filterMap_nil, Option.map_some, Option.map_none, List.length_cons, List.length_nil, F_add_i, F_add_s, F_add_l, F_add_t, F_int, F_cmp_i, F_cmp_s, F_in_l, F_in_t, F_in_s, F_ix_l, F_ix_t, F_ix_s, F_sl_l, F_sl_t, F_sl_s, F_len_l, F_len_t, F_len_s, F_toInt, F_toStr, F_toTup_l, F_toTup_t, F_toLst_l, F_toLst_t, F_all, F_any, F_split, F_join_l, F_join_t, F_part, F_start, F_end, F_strip, F_sorted_l, F_sorted_t, N_none, N_str, N_int, N_bool, N_tup, N_lst, S_str, S_none, S_int, S_bool, S_tup, S_lst, I_str, I_none, I_int, I_bool, I_tup, I_lst, B_str, B_none, B_int, B_bool, B_tup, B_lst, T_str, T_none, T_int, T_bool, T_tup, T_lst, L_str, L_none, L_int, L_bool, L_tup, L_lst, D_str, D_none, D_int, D_bool, D_tup, D_lst, N_dic, S_dic, I_dic, B_dic, T_dic, L_dic, D_dic, E_ss, E_ii, E_bb, E_ns, E_is, E_bs, E_nn, isA_str, isA_int, isA_bool, isA_tuple, isA_list, isA_dict, fEq, fNe, fIsN, fNotN, eqv_str, eqv_int, eqv_bool, exists_eq_left', exists_eq_left, exists_and_left, R.d.injEq, R.o.injEq, PyData.bool.injEq, PyData.str.injEq, PyData.int.injEq, PyData.tuple.injEq, PyData.list.injEq, List.cons.injEq, Option.some.injEq, and_true, true_and, and_self, Bool.not_true, Bool.not_false, Bool.false_eq_true, Bool.true_eq_false, Bool.true_and, Bool.false_and, Bool.true_or, Bool.false_or, if_true, if_false, reduceIte, reduceCtorEq, not_false_eq_true, ne_eq, true_or, or_true, false_or, or_false, List.map_nil, List.map_cons, Option.toList_some, Option.toList_none, false_and, and_false, Bool.not_eq_true, Bool.or_false, Bool.or_true, Bool.and_true, Bool.and_false]
      rw [← frozenL_map]
      simpa only [frozenD] using h
  | _ =>
    simp only [w_frozen, w_frozen_1, fs_is_sequence, wSeq, wIfS, wRet, wRetN, wNext, wBreak, wCont, wNever, wSet, wAsg, wPar, wExpr, wFor, wApp, wPop, wSetIx, wVar, wBor, wTake, wC, wBin, wNil, wCons, wPrim, wCall, wTup, wLst, wSl, wNone, wSome, wM0, wM1, wB, wAndT, wOrT, wNotT, wAndV, wOrV, wNotV, wIf, wIsi, wIsi2, wNeg, wChain, wSortedSet, X_txl, X_txt, wIt, wIt.rdf, wRng1, wRng2, wLc, wYes, lcS, wipeG, backG, noMut, rd_d, rd_o, rd_b, rdf_d, rdf_o, fz_d, fz_o, fz_b, sl_d, sl_o, ok_d, ok_o, argSl_d, argSl_o, argSl_b, items_l, items_t, items_s, rds, rdF, stOk_eq, ncO_some, nc_v, nc_own, nc_no, stOks, setAll, wG, mutAt, putAt, Sl.mu, Sl.put, argSls, noB, fewB, putB, endP, cellsOf, cellF, List.getElem?_cons_zero, List.getElem?_cons_succ, List.getElem?_nil, List.set_cons_zero, List.set_cons_succ, List.append_eq, List.nil_append, List.cons_append, List.replicate, List.take_succ_cons, List.take_zero, List.take_nil, List.filterMap_cons, List.filterMap_nil, Option.map_some, Option.map_none, List.length_cons, List.length_nil, F_add_i, F_add_s, F_add_l, F_add_t, F_int, F_cmp_i, F_cmp_s, F_in_l, F_in_t, F_in_s, F_ix_l, F_ix_t, F_ix_s, F_sl_l, F_sl_t, F_sl_s, F_len_l, F_len_t, F_len_s, F_toInt, F_toStr, F_toTup_l, F_toTup_t, F_toLst_l, F_toLst_t, F_all, F_any, F_split, F_join_l, F_join_t, F_part, F_start, F_end, F_strip, F_sorted_l, F_sorted_t, N_none, N_str, N_int, N_bool, N_tup, N_lst, S_str, S_none, S_int, S_bool, S_tup, S_lst, I_str, I_none, I_int, I_bool, I_tup, I_lst, B_str, B_none, B_int, B_bool, B_tup, B_lst, T_str, T_none, T_int, T_bool, T_tup, T_lst, L_str, L_none, L_int, L_bool, L_tup, L_lst, D_str, D_none, D_int, D_bool, D_tup, D_lst, N_dic, S_dic, I_dic, B_dic, T_dic, L_dic, D_dic, E_ss, E_ii, E_bb, E_ns, E_is, E_bs, E_nn, isA_str, isA_int, isA_bool, isA_tuple, isA_list, isA_dict, fEq, fNe, fIsN, fNotN, eqv_str, eqv_int, eqv_bool, exists_eq_left', exists_eq_left, exists_and_left, R.d.injEq, R.o.injEq, PyData.bool.injEq, PyData.str.injEq, PyData.int.injEq, PyData.tuple.injEq, PyData.list.injEq, List.cons.injEq, Option.some.injEq, and_true, true_and, and_self, Bool.not_true, Bool.not_false, Bool.false_eq_true, Bool.true_eq_false, Bool.true_and, Bool.false_and, Bool.true_or, Bool.false_or, if_true, if_false, reduceIte, reduceCtorEq, not_false_eq_true, ne_eq, true_or, or_true, false_or, or_false, List.map_nil, List.map_cons, Option.toList_some, Option.toList_none, false_and, and_false, Bool.not_eq_true, Bool.or_false, Bool.or_true, Bool.and_true, Bool.and_false]
    refine ⟨_, rfl, ?_⟩
    simp only [isSeq, exists_eq_left', exists_eq_left, exists_and_left, R.d.injEq, R.o.injEq, PyData.bool.injEq, PyData.str.injEq, PyData.int.injEq, PyData.tuple.injEq, PyData.list.injEq, List.cons.injEq, Option.some.injEq, and_true, true_and, and_self, Bool.not_true, Bool.not_false, Bool.false_eq_true, Bool.true_eq_false, Bool.true_and, Bool.false_and, Bool.true_or, Bool.false_or, if_true, if_false, reduceIte, reduceCtorEq, not_false_eq_true, ne_eq, true_or, or_true, false_or, or_false, List.map_nil, List.map_cons, Option.toList_some, Option.toList_none, false_and, and_false, Bool.not_eq_true, Bool.or_false, Bool.or_true, Bool.and_true, Bool.and_false]
    simpa only [frozenD] using h

def w_is_letter : WS := (wRet (wOrV (wChain fLe fLe (wC (PyData.str "a")) (wBor 0) (wC (PyData.str "z"))) (wOrV (wChain fLe fLe (wC (PyData.str "A")) (wBor 0) (wC (PyData.str "Z"))) (wChain fLe fLe (wC (PyData.str "0")) (wBor 0) (wC (PyData.str "9"))))))


theorem lt1 (a b : Nat) : (([a] : List Nat) < [b]) ↔ a < b := by
  rw [List.cons_lt_cons_iff]
  constructor
  · rintro (h | ⟨_, h⟩)
    · exact h
    · exact absurd h (List.lt_irrefl _)
  · exact Or.inl
def fs_is_letter : FS := fun as Q _ => ∃ c, as = [.v (.str (sg c))] ∧ Q (.d (.bool (isLetterN c))) []
theorem l_is_letter : ∀ as Q X, fs_is_letter as Q X → as.length = 1 := by rintro as Q X ⟨d, rfl, _⟩; rfl
theorem m_is_letter : ∀ as Q X, fs_is_letter as Q X → w_is_letter (as ++ List.replicate 0 Sl.no) (endP 1 Q X) := by
  rintro as Q X ⟨c, rfl, h⟩
  have e : ∀ (k : Nat) (s : String), (Str.ofString s).cps.toList = [k] → (decide ((sg c).cps.toList < (Str.ofString s).cps.toList) = decide (c < k)) ∧ (decide ((Str.ofString s).cps.toList < (sg c).cps.toList) = decide (k < c)) := fun k s q => by
    rw [q]
    show decide ([c] < [k]) = _ ∧ decide ([k] < [c]) = _
    simp only [lt1, and_self]
  have ea := e 97 "a" (by decide +kernel)
  have ez := e 122 "z" (by decide +kernel)
  have eA := e 65 "A" (by decide +kernel)
  have eZ := e 90 "Z" (by decide +kernel)
  have e0 := e 48 "0" (by decide +kernel)
  have e9 := e 57 "9" (by decide +kernel)
  simp only [w_is_letter, wSeq, wIfS, wRet, wRetN, wNext, wBreak, wCont, wNever, wSet, wAsg, wPar, wExpr, wFor, wApp, wPop, wSetIx, wVar, wBor, wTake, wC, wBin, wNil, wCons, wPrim, wCall, wTup, wLst, wSl, wNone, wSome, wM0, wM1, wB, wAndT, wOrT, wNotT, wAndV, wOrV, wNotV, wIf, wIsi, wIsi2, wNeg, wChain, wSortedSet, X_txl, X_txt, wIt, wIt.rdf, wRng1, wRng2, wLc, wYes, lcS, wipeG, backG, noMut, rd_d, rd_o, rd_b, rdf_d, rdf_o, fz_d, fz_o, fz_b, sl_d, sl_o, ok_d, ok_o, argSl_d, argSl_o, argSl_b, items_l, items_t, items_s, rds, rdF, stOk_eq, ncO_some, nc_v, nc_own, nc_no, stOks, setAll, wG, mutAt, putAt, Sl.mu, Sl.put, argSls, noB, fewB, putB, endP, cellsOf, cellF, List.getElem?_cons_zero, List.getElem?_cons_succ, List.getElem?_nil, List.set_cons_zero, List.set_cons_succ, List.append_eq, List.nil_append, List.cons_append, List.replicate, List.take_succ_cons, List.take_zero, List.take_nil, List.filterMap_cons, List.filterMap_nil, Option.map_some, Option.map_none, List.length_cons, List.length_nil, F_add_i, F_add_s, F_add_l, F_add_t, F_int, F_cmp_i, F_cmp_s, F_in_l, F_in_t, F_in_s, F_ix_l, F_ix_t, F_ix_s, F_sl_l, F_sl_t, F_sl_s, F_len_l, F_len_t, F_len_s, F_toInt, F_toStr, F_toTup_l, F_toTup_t, F_toLst_l, F_toLst_t, F_all, F_any, F_split, F_join_l, F_join_t, F_part, F_start, F_end, F_strip, F_sorted_l, F_sorted_t, N_none, N_str, N_int, N_bool, N_tup, N_lst, S_str, S_none, S_int, S_bool, S_tup, S_lst, I_str, I_none, I_int, I_bool, I_tup, I_lst, B_str, B_none, B_int, B_bool, B_tup, B_lst, T_str, T_none, T_int, T_bool, T_tup, T_lst, L_str, L_none, L_int, L_bool, L_tup, L_lst, D_str, D_none, D_int, D_bool, D_tup, D_lst, N_dic, S_dic, I_dic, B_dic, T_dic, L_dic, D_dic, E_ss, E_ii, E_bb, E_ns, E_is, E_bs, E_nn, isA_str, isA_int, isA_bool, isA_tuple, isA_list, isA_dict, fEq, fNe, fIsN, fNotN, eqv_str, eqv_int, eqv_bool, exists_eq_left', exists_eq_left, exists_and_left, R.d.injEq, R.o.injEq, PyData.bool.injEq, PyData.str.injEq, PyData.int.injEq, PyData.tuple.injEq, PyData.list.injEq, List.cons.injEq, Option.some.injEq, and_true, true_and, and_self, Bool.not_true, Bool.not_false, Bool.false_eq_true, Bool.true_eq_false, Bool.true_and, Bool.false_and, Bool.true_or, Bool.false_or, if_true, if_false, reduceIte, reduceCtorEq, not_false_eq_true, ne_eq, true_or, or_true, false_or, or_false, List.map_nil, List.map_cons, Option.toList_some, Option.toList_none, false_and, and_false, Bool.not_eq_true, Bool.or_false, Bool.or_true, Bool.and_true, Bool.and_false, ea.1, ez.2, eA.1, eZ.2, e0.1, e9.2]
  have hh : isLetterN c = ((!decide (c < 97) && !decide (122 < c)) || ((!decide (c < 65) && !decide (90 < c)) || (!decide (c < 48) && !decide (57 < c)))) := by
    unfold isLetterN
    simp only [← decide_not, Nat.not_lt]
  rw [hh] at h
  revert h
  cases decide (c < 97) <;> cases decide (122 < c) <;> cases decide (c < 65) <;> cases decide (90 < c) <;> cases decide (c < 48) <;> cases decide (57 < c) <;> simp

def w_has_signs_1 : WS := (wRet (wPrim fAll (wCons (wLc (wIt (wVar 0)) (.n 2) wYes (wOrV (wCall (fs_is_letter) (wCons (wVar 2) wNil)) (wBin (fIn false) (wBor 2) (wBor 1))) [2]) wNil)))
def w_has_signs : WS := (wSeq (wIfS (wOrT (wNotT (wB (wIsi (wBor 0) "str"))) (wNotT (wB (wChain fLe fLe (wC (PyData.int 1)) (wPrim fLen (wCons (wBor 0) wNil)) (wC (PyData.int 40)))))) (wRet (wC (PyData.bool false))) wNext) w_has_signs_1)

def hasSigns (d : PyData) (signs : Str) : Bool := match d with
  | .str s => hasSignsS s signs
  | _ => false
def fs_has_signs : FS := fun as Q _ => ∃ d signs, as = [.v d, .v (.str signs)] ∧ okD d = true ∧ Q (.d (.bool (hasSigns d signs))) []
theorem l_has_signs : ∀ as Q X, fs_has_signs as Q X → as.length = 2 := by rintro as Q X ⟨d, _, rfl, _⟩; rfl
theorem m_has_signs : ∀ as Q X, fs_has_signs as Q X → w_has_signs (as ++ List.replicate 1 Sl.no) (endP 2 Q X) := by
  rintro as Q X ⟨d, signs, rfl, ok, h⟩
  cases d with
  | str s =>
    have hz : s.length ≤ sizeLine := okS_len (by simpa [okD] using ok)
    have hz2 : (DL.signs s).length < sizeLine := by
      have := okS_len' (by simpa [okD] using ok)
      have h2 : (DL.signs s).length = s.length := by simp [DL.signs, Str.length]
      rw [h2]
      exact Nat.lt_of_le_of_lt this (by decide)
    have e2 : decide ((s.length : Int) ≤ 40) = decide (s.length ≤ 40) := leI s.length 40
    simp only [w_has_signs, wSeq, wIfS, wRet, wRetN, wNext, wBreak, wCont, wNever, wSet, wAsg, wPar, wExpr, wFor, wApp, wPop, wSetIx, wVar, wBor, wTake, wC, wBin, wNil, wCons, wPrim, wCall, wTup, wLst, wSl, wNone, wSome, wM0, wM1, wB, wAndT, wOrT, wNotT, wAndV, wOrV, wNotV, wIf, wIsi, wIsi2, wNeg, wChain, wSortedSet, X_txl, X_txt, wIt, wIt.rdf, wRng1, wRng2, wLc, wYes, lcS, wipeG, backG, noMut, rd_d, rd_o, rd_b, rdf_d, rdf_o, fz_d, fz_o, fz_b, sl_d, sl_o, ok_d, ok_o, argSl_d, argSl_o, argSl_b, items_l, items_t, items_s, rds, rdF, stOk_eq, ncO_some, nc_v, nc_own, nc_no, stOks, setAll, wG, mutAt, putAt, Sl.mu, Sl.put, argSls, noB, fewB, putB, endP, cellsOf, cellF, List.getElem?_cons_zero, List.getElem?_cons_succ, List.getElem?_nil, List.set_cons_zero, List.set_cons_succ, List.append_eq, List.nil_append, List.cons_append, List.replicate, List.take_succ_cons, List.take_zero, List.take_nil, List.filterMap_cons, List.filterMap_nil, Option.map_some, Option.map_none, List.length_cons, List.length_nil, F_add_i, F_add_s, F_add_l, F_add_t, F_int, F_cmp_i, F_cmp_s, F_in_l, F_in_t, F_in_s, F_ix_l, F_ix_t, F_ix_s, F_sl_l, F_sl_t, F_sl_s, F_len_l, F_len_t, F_len_s, F_toInt, F_toStr, F_toTup_l, F_toTup_t, F_toLst_l, F_toLst_t, F_all, F_any, F_split, F_join_l, F_join_t, F_part, F_start, F_end, F_strip, F_sorted_l, F_sorted_t, N_none, N_str, N_int, N_bool, N_tup, N_lst, S_str, S_none, S_int, S_bool, S_tup, S_lst, I_str, I_none, I_int, I_bool, I_tup, I_lst, B_str, B_none, B_int, B_bool, B_tup, B_lst, T_str, T_none, T_int, T_bool, T_tup, T_lst, L_str, L_none, L_int, L_bool, L_tup, L_lst, D_str, D_none, D_int, D_bool, D_tup, D_lst, N_dic, S_dic, I_dic, B_dic, T_dic, L_dic, D_dic, E_ss, E_ii, E_bb, E_ns, E_is, E_bs, E_nn, isA_str, isA_int, isA_bool, isA_tuple, isA_list, isA_dict, fEq, fNe, fIsN, fNotN, eqv_str, eqv_int, eqv_bool, exists_eq_left', exists_eq_left, exists_and_left, R.d.injEq, R.o.injEq, PyData.bool.injEq, PyData.str.injEq, PyData.int.injEq, PyData.tuple.injEq, PyData.list.injEq, List.cons.injEq, Option.some.injEq, and_true, true_and, and_self, Bool.not_true, Bool.not_false, Bool.false_eq_true, Bool.true_eq_false, Bool.true_and, Bool.false_and, Bool.true_or, Bool.false_or, if_true, if_false, reduceIte, reduceCtorEq, not_false_eq_true, ne_eq, true_or, or_true, false_or, or_false, List.map_nil, List.map_cons, Option.toList_some, Option.toList_none, false_and, and_false, Bool.not_eq_true, Bool.or_false, Bool.or_true, Bool.and_true, Bool.and_false, hz, le1n, e2]
    by_cases h1 : 1 ≤ s.length
    · by_cases h2 : s.length ≤ 40
      · simp only [h1, h2, exists_eq_left', exists_eq_left, exists_and_left, R.d.injEq, R.o.injEq, PyData.bool.injEq, PyData.str.injEq, PyData.int.injEq, PyData.tuple.injEq, PyData.list.injEq, List.cons.injEq, Option.some.injEq, and_true, true_and, and_self, Bool.not_true, Bool.not_false, Bool.false_eq_true, Bool.true_eq_false, Bool.true_and, Bool.false_and, Bool.true_or, Bool.false_or, if_true, if_false, reduceIte, reduceCtorEq, not_false_eq_true, ne_eq, true_or, or_true, false_or, or_false, List.map_nil, List.map_cons, Option.toList_some, Option.toList_none, false_and, and_false, Bool.not_eq_true, Bool.or_false, Bool.or_true, Bool.and_true, Bool.and_false, decide_true]
        simp only [w_has_signs_1, wSeq, wIfS, wRet, wRetN, wNext, wBreak, wCont, wNever, wSet, wAsg, wPar, wExpr, wFor, wApp, wPop, wSetIx, wVar, wBor, wTake, wC, wBin, wNil, wCons, wPrim, wCall, wTup, wLst, wSl, wNone, wSome, wM0, wM1, wB, wAndT, wOrT, wNotT, wAndV, wOrV, wNotV, wIf, wIsi, wIsi2, wNeg, wChain, wSortedSet, X_txl, X_txt, wIt, wIt.rdf, wRng1, wRng2, wLc, wYes, lcS, wipeG, backG, noMut, rd_d, rd_o, rd_b, rdf_d, rdf_o, fz_d, fz_o, fz_b, sl_d, sl_o, ok_d, ok_o, argSl_d, argSl_o, argSl_b, items_l, items_t, items_s, rds, rdF, stOk_eq, ncO_some, nc_v, nc_own, nc_no, stOks, setAll, wG, mutAt, putAt, Sl.mu, Sl.put, argSls, noB, fewB, putB, endP, cellsOf, cellF, List.getElem?_cons_zero, List.getElem?_cons_succ, List.getElem?_nil, List.set_cons_zero, List.set_cons_succ, List.append_eq, List.nil_append, List.cons_append, List.replicate, List.take_succ_cons, List.take_zero, List.take_nil, List.filterMap_cons, List.filterMap_nil, Option.map_some, Option.map_none, List.length_cons, List.length_nil, F_add_i, F_add_s, F_add_l, F_add_t, F_int, F_cmp_i, F_cmp_s, F_in_l, F_in_t, F_in_s, F_ix_l, F_ix_t, F_ix_s, F_sl_l, F_sl_t, F_sl_s, F_len_l, F_len_t, F_len_s, F_toInt, F_toStr, F_toTup_l, F_toTup_t, F_toLst_l, F_toLst_t, F_all, F_any, F_split, F_join_l, F_join_t, F_part, F_start, F_end, F_strip, F_sorted_l, F_sorted_t, N_none, N_str, N_int, N_bool, N_tup, N_lst, S_str, S_none, S_int, S_bool, S_tup, S_lst, I_str, I_none, I_int, I_bool, I_tup, I_lst, B_str, B_none, B_int, B_bool, B_tup, B_lst, T_str, T_none, T_int, T_bool, T_tup, T_lst, L_str, L_none, L_int, L_bool, L_tup, L_lst, D_str, D_none, D_int, D_bool, D_tup, D_lst, N_dic, S_dic, I_dic, B_dic, T_dic, L_dic, D_dic, E_ss, E_ii, E_bb, E_ns, E_is, E_bs, E_nn, isA_str, isA_int, isA_bool, isA_tuple, isA_list, isA_dict, fEq, fNe, fIsN, fNotN, eqv_str, eqv_int, eqv_bool, exists_eq_left', exists_eq_left, exists_and_left, R.d.injEq, R.o.injEq, PyData.bool.injEq, PyData.str.injEq, PyData.int.injEq, PyData.tuple.injEq, PyData.list.injEq, List.cons.injEq, Option.some.injEq, and_true, true_and, and_self, Bool.not_true, Bool.not_false, Bool.false_eq_true, Bool.true_eq_false, Bool.true_and, Bool.false_and, Bool.true_or, Bool.false_or, if_true, if_false, reduceIte, reduceCtorEq, not_false_eq_true, ne_eq, true_or, or_true, false_or, or_false, List.map_nil, List.map_cons, Option.toList_some, Option.toList_none, false_and, and_false, Bool.not_eq_true, Bool.or_false, Bool.or_true, Bool.and_true, Bool.and_false]
        refine ⟨hz2, lcI_mapE s.cps.toList (fun c => .str (sg c)) (fun c => .bool (isLetterN c || decide (c ∈ signs.cps.toList))) rfl (fun c hc Kn kn => ?_) ?_⟩
        · simp only [fs_is_letter, wSeq, wIfS, wRet, wRetN, wNext, wBreak, wCont, wNever, wSet, wAsg, wPar, wExpr, wFor, wApp, wPop, wSetIx, wVar, wBor, wTake, wC, wBin, wNil, wCons, wPrim, wCall, wTup, wLst, wSl, wNone, wSome, wM0, wM1, wB, wAndT, wOrT, wNotT, wAndV, wOrV, wNotV, wIf, wIsi, wIsi2, wNeg, wChain, wSortedSet, X_txl, X_txt, wIt, wIt.rdf, wRng1, wRng2, wLc, wYes, lcS, wipeG, backG, noMut, rd_d, rd_o, rd_b, rdf_d, rdf_o, fz_d, fz_o, fz_b, sl_d, sl_o, ok_d, ok_o, argSl_d, argSl_o, argSl_b, items_l, items_t, items_s, rds, rdF, stOk_eq, ncO_some, nc_v, nc_own, nc_no, stOks, setAll, wG, mutAt, putAt, Sl.mu, Sl.put, argSls, noB, fewB, putB, endP, cellsOf, cellF, List.getElem?_cons_zero, List.getElem?_cons_succ, List.getElem?_nil, List.set_cons_zero, List.set_cons_succ, List.append_eq, List.nil_append, List.cons_append, List.replicate, List.take_succ_cons, List.take_zero, List.take_nil, List.filterMap_cons, List.filterMap_nil, Option.map_some, Option.map_none, List.length_cons, List.length_nil, F_add_i, F_add_s, F_add_l, F_add_t, F_int, F_cmp_i, F_cmp_s, F_in_l, F_in_t, F_in_s, F_ix_l, F_ix_t, F_ix_s, F_sl_l, F_sl_t, F_sl_s, F_len_l, F_len_t, F_len_s, F_toInt, F_toStr, F_toTup_l, F_toTup_t, F_toLst_l, F_toLst_t, F_all, F_any, F_split, F_join_l, F_join_t, F_part, F_start, F_end, F_strip, F_sorted_l, F_sorted_t, N_none, N_str, N_int, N_bool, N_tup, N_lst, S_str, S_none, S_int, S_bool, S_tup, S_lst, I_str, I_none, I_int, I_bool, I_tup, I_lst, B_str, B_none, B_int, B_bool, B_tup, B_lst, T_str, T_none, T_int, T_bool, T_tup, T_lst, L_str, L_none, L_int, L_bool, L_tup, L_lst, D_str, D_none, D_int, D_bool, D_tup, D_lst, N_dic, S_dic, I_dic, B_dic, T_dic, L_dic, D_dic, E_ss, E_ii, E_bb, E_ns, E_is, E_bs, E_nn, isA_str, isA_int, isA_bool, isA_tuple, isA_list, isA_dict, fEq, fNe, fIsN, fNotN, eqv_str, eqv_int, eqv_bool, exists_eq_left', exists_eq_left, exists_and_left, R.d.injEq, R.o.injEq, PyData.bool.injEq, PyData.str.injEq, PyData.int.injEq, PyData.tuple.injEq, PyData.list.injEq, List.cons.injEq, Option.some.injEq, and_true, true_and, and_self, Bool.not_true, Bool.not_false, Bool.false_eq_true, Bool.true_eq_false, Bool.true_and, Bool.false_and, Bool.true_or, Bool.false_or, if_true, if_false, reduceIte, reduceCtorEq, not_false_eq_true, ne_eq, true_or, or_true, false_or, or_false, List.map_nil, List.map_cons, Option.toList_some, Option.toList_none, false_and, and_false, Bool.not_eq_true, Bool.or_false, Bool.or_true, Bool.and_true, Bool.and_false]
          refine ⟨c, rfl, ?_⟩
          cases hb : isLetterN c with
          | true => simpa [hb] using kn
          | false => simp only [hb, exists_eq_left', exists_eq_left, exists_and_left, R.d.injEq, R.o.injEq, PyData.bool.injEq, PyData.str.injEq, PyData.int.injEq, PyData.tuple.injEq, PyData.list.injEq, List.cons.injEq, Option.some.injEq, and_true, true_and, and_self, Bool.not_true, Bool.not_false, Bool.false_eq_true, Bool.true_eq_false, Bool.true_and, Bool.false_and, Bool.true_or, Bool.false_or, if_true, if_false, reduceIte, reduceCtorEq, not_false_eq_true, ne_eq, true_or, or_true, false_or, or_false, List.map_nil, List.map_cons, Option.toList_some, Option.toList_none, false_and, and_false, Bool.not_eq_true, Bool.or_false, Bool.or_true, Bool.and_true, Bool.and_false] at kn ⊢; exact ⟨c, rfl, kn⟩
        · refine ⟨_, bools_map _ _, ?_⟩
          simp only [wSeq, wIfS, wRet, wRetN, wNext, wBreak, wCont, wNever, wSet, wAsg, wPar, wExpr, wFor, wApp, wPop, wSetIx, wVar, wBor, wTake, wC, wBin, wNil, wCons, wPrim, wCall, wTup, wLst, wSl, wNone, wSome, wM0, wM1, wB, wAndT, wOrT, wNotT, wAndV, wOrV, wNotV, wIf, wIsi, wIsi2, wNeg, wChain, wSortedSet, X_txl, X_txt, wIt, wIt.rdf, wRng1, wRng2, wLc, wYes, lcS, wipeG, backG, noMut, rd_d, rd_o, rd_b, rdf_d, rdf_o, fz_d, fz_o, fz_b, sl_d, sl_o, ok_d, ok_o, argSl_d, argSl_o, argSl_b, items_l, items_t, items_s, rds, rdF, stOk_eq, ncO_some, nc_v, nc_own, nc_no, stOks, setAll, wG, mutAt, putAt, Sl.mu, Sl.put, argSls, noB, fewB, putB, endP, cellsOf, cellF, List.getElem?_cons_zero, List.getElem?_cons_succ, List.getElem?_nil, List.set_cons_zero, List.set_cons_succ, List.append_eq, List.nil_append, List.cons_append, List.replicate, List.take_succ_cons, List.take_zero, List.take_nil, List.filterMap_cons, List.filterMap_nil, Option.map_some, Option.map_none, List.length_cons, List.length_nil]
          have : hasSigns (.str s) signs = (List.map (fun c => isLetterN c || decide (c ∈ signs.cps.toList)) s.cps.toList).all id := by
            simp only [hasSigns, hasSignsS, h1, h2, decide_true, Bool.true_and, List.all_map]
            rfl
          rw [this] at h
          exact h
      · simpa [h1, h2, hasSigns, hasSignsS] using h
    · simpa [h1, hasSigns, hasSignsS] using h
  | _ => simp only [w_has_signs, wSeq, wIfS, wRet, wRetN, wNext, wBreak, wCont, wNever, wSet, wAsg, wPar, wExpr, wFor, wApp, wPop, wSetIx, wVar, wBor, wTake, wC, wBin, wNil, wCons, wPrim, wCall, wTup, wLst, wSl, wNone, wSome, wM0, wM1, wB, wAndT, wOrT, wNotT, wAndV, wOrV, wNotV, wIf, wIsi, wIsi2, wNeg, wChain, wSortedSet, X_txl, X_txt, wIt, wIt.rdf, wRng1, wRng2, wLc, wYes, lcS, wipeG, backG, noMut, rd_d, rd_o, rd_b, rdf_d, rdf_o, fz_d, fz_o, fz_b, sl_d, sl_o, ok_d, ok_o, argSl_d, argSl_o, argSl_b, items_l, items_t, items_s, rds, rdF, stOk_eq, ncO_some, nc_v, nc_own, nc_no, stOks, setAll, wG, mutAt, putAt, Sl.mu, Sl.put, argSls, noB, fewB, putB, endP, cellsOf, cellF, List.getElem?_cons_zero, List.getElem?_cons_succ, List.getElem?_nil, List.set_cons_zero, List.set_cons_succ, List.append_eq, List.nil_append, List.cons_append, List.replicate, List.take_succ_cons, List.take_zero, List.take_nil, List.filterMap_cons, List.filterMap_nil, Option.map_some, Option.map_none, List.length_cons, List.length_nil, F_add_i, F_add_s, F_add_l, F_add_t, F_int, F_cmp_i, F_cmp_s, F_in_l, F_in_t, F_in_s, F_ix_l, F_ix_t, F_ix_s, F_sl_l, F_sl_t, F_sl_s, F_len_l, F_len_t, F_len_s, F_toInt, F_toStr, F_toTup_l, F_toTup_t, F_toLst_l, F_toLst_t, F_all, F_any, F_split, F_join_l, F_join_t, F_part, F_start, F_end, F_strip, F_sorted_l, F_sorted_t, N_none, N_str, N_int, N_bool, N_tup, N_lst, S_str, S_none, S_int, S_bool, S_tup, S_lst, I_str, I_none, I_int, I_bool, I_tup, I_lst, B_str, B_none, B_int, B_bool, B_tup, B_lst, T_str, T_none, T_int, T_bool, T_tup, T_lst, L_str, L_none, L_int, L_bool, L_tup, L_lst, D_str, D_none, D_int, D_bool, D_tup, D_lst, N_dic, S_dic, I_dic, B_dic, T_dic, L_dic, D_dic, E_ss, E_ii, E_bb, E_ns, E_is, E_bs, E_nn, isA_str, isA_int, isA_bool, isA_tuple, isA_list, isA_dict, fEq, fNe, fIsN, fNotN, eqv_str, eqv_int, eqv_bool, exists_eq_left', exists_eq_left, exists_and_left, R.d.injEq, R.o.injEq, PyData.bool.injEq, PyData.str.injEq, PyData.int.injEq, PyData.tuple.injEq, PyData.list.injEq, List.cons.injEq, Option.some.injEq, and_true, true_and, and_self, Bool.not_true, Bool.not_false, Bool.false_eq_true, Bool.true_eq_false, Bool.true_and, Bool.false_and, Bool.true_or, Bool.false_or, if_true, if_false, reduceIte, reduceCtorEq, not_false_eq_true, ne_eq, true_or, or_true, false_or, or_false, List.map_nil, List.map_cons, Option.toList_some, Option.toList_none, false_and, and_false, Bool.not_eq_true, Bool.or_false, Bool.or_true, Bool.and_true, Bool.and_false]; exact h

def w_is_item_word : WS := (wRet (wAndV (wCall (fs_has_signs) (wCons (wVar 0) (wCons (wC (PyData.str "_-/.:@")) wNil))) (wBin fNe (wBin fIx (wBor 0) (wNeg (wC (PyData.int 1)))) (wC (PyData.str ".")))))

def fs_is_item_word : FS := fun as Q _ => ∃ d, as = [.v d] ∧ okD d = true ∧ Q (.d (.bool (isItemWord d))) []
theorem l_is_item_word : ∀ as Q X, fs_is_item_word as Q X → as.length = 1 := by rintro as Q X ⟨d, rfl, _⟩; rfl
theorem m_is_item_word : ∀ as Q X, fs_is_item_word as Q X → w_is_item_word (as ++ List.replicate 0 Sl.no) (endP 1 Q X) := by
  rintro as Q X ⟨d, rfl, ok, h⟩
  simp only [w_is_item_word, fs_has_signs, wSeq, wIfS, wRet, wRetN, wNext, wBreak, wCont, wNever, wSet, wAsg, wPar, wExpr, wFor, wApp, wPop, wSetIx, wVar, wBor, wTake, wC, wBin, wNil, wCons, wPrim, wCall, wTup, wLst, wSl, wNone, wSome, wM0, wM1, wB, wAndT, wOrT, wNotT, wAndV, wOrV, wNotV, wIf, wIsi, wIsi2, wNeg, wChain, wSortedSet, X_txl, X_txt, wIt, wIt.rdf, wRng1, wRng2, wLc, wYes, lcS, wipeG, backG, noMut, rd_d, rd_o, rd_b, rdf_d, rdf_o, fz_d, fz_o, fz_b, sl_d, sl_o, ok_d, ok_o, argSl_d, argSl_o, argSl_b, items_l, items_t, items_s, rds, rdF, stOk_eq, ncO_some, nc_v, nc_own, nc_no, stOks, setAll, wG, mutAt, putAt, Sl.mu, Sl.put, argSls, noB, fewB, putB, endP, cellsOf, cellF, List.getElem?_cons_zero, List.getElem?_cons_succ, List.getElem?_nil, List.set_cons_zero, List.set_cons_succ, List.append_eq, List.nil_append, List.cons_append, List.replicate, List.take_succ_cons, List.take_zero, List.take_nil, List.filterMap_cons, List.filterMap_nil, Option.map_some, Option.map_none, List.length_cons, List.length_nil, F_add_i, F_add_s, F_add_l, F_add_t, F_int, F_cmp_i, F_cmp_s, F_in_l, F_in_t, F_in_s, F_ix_l, F_ix_t, F_ix_s, F_sl_l, F_sl_t, F_sl_s, F_len_l, F_len_t, F_len_s, F_toInt, F_toStr, F_toTup_l, F_toTup_t, F_toLst_l, F_toLst_t, F_all, F_any, F_split, F_join_l, F_join_t, F_part, F_start, F_end, F_strip, F_sorted_l, F_sorted_t, N_none, N_str, N_int, N_bool, N_tup, N_lst, S_str, S_none, S_int, S_bool, S_tup, S_lst, I_str, I_none, I_int, I_bool, I_tup, I_lst, B_str, B_none, B_int, B_bool, B_tup, B_lst, T_str, T_none, T_int, T_bool, T_tup, T_lst, L_str, L_none, L_int, L_bool, L_tup, L_lst, D_str, D_none, D_int, D_bool, D_tup, D_lst, N_dic, S_dic, I_dic, B_dic, T_dic, L_dic, D_dic, E_ss, E_ii, E_bb, E_ns, E_is, E_bs, E_nn, isA_str, isA_int, isA_bool, isA_tuple, isA_list, isA_dict, fEq, fNe, fIsN, fNotN, eqv_str, eqv_int, eqv_bool, exists_eq_left', exists_eq_left, exists_and_left, R.d.injEq, R.o.injEq, PyData.bool.injEq, PyData.str.injEq, PyData.int.injEq, PyData.tuple.injEq, PyData.list.injEq, List.cons.injEq, Option.some.injEq, and_true, true_and, and_self, Bool.not_true, Bool.not_false, Bool.false_eq_true, Bool.true_eq_false, Bool.true_and, Bool.false_and, Bool.true_or, Bool.false_or, if_true, if_false, reduceIte, reduceCtorEq, not_false_eq_true, ne_eq, true_or, or_true, false_or, or_false, List.map_nil, List.map_cons, Option.toList_some, Option.toList_none, false_and, and_false, Bool.not_eq_true, Bool.or_false, Bool.or_true, Bool.and_true, Bool.and_false]
  refine ⟨d, itemSigns, ⟨rfl, rfl⟩, ok, ?_⟩
  cases d with
  | str s =>
    cases hb : hasSigns (.str s) itemSigns with
    | false =>
      have : isItemWord (.str s) = false := by simp only [hasSigns] at hb; simp [isItemWord, isItemS, hb]
      rw [this] at h
      simpa using h
    | true =>
      have hb' : hasSignsS s itemSigns = true := hb
      have h1 : 1 ≤ s.length := by simp only [hasSignsS, Bool.and_eq_true, decide_eq_true_eq] at hb'; exact hb'.1.1
      have hz : s.length ≤ sizeLine := okS_len (by simpa [okD] using ok)
      obtain ⟨c, hc⟩ : ∃ c, s.cps.toList.getLast? = some c := by
        cases e : s.cps.toList.getLast? with
        | some c => exact ⟨c, rfl⟩
        | none =>
          rw [List.getLast?_eq_none_iff] at e
          have : s.length = 0 := by simp [Str.length, ← Array.length_toList, e]
          omega
      simp only [wSeq, wIfS, wRet, wRetN, wNext, wBreak, wCont, wNever, wSet, wAsg, wPar, wExpr, wFor, wApp, wPop, wSetIx, wVar, wBor, wTake, wC, wBin, wNil, wCons, wPrim, wCall, wTup, wLst, wSl, wNone, wSome, wM0, wM1, wB, wAndT, wOrT, wNotT, wAndV, wOrV, wNotV, wIf, wIsi, wIsi2, wNeg, wChain, wSortedSet, X_txl, X_txt, wIt, wIt.rdf, wRng1, wRng2, wLc, wYes, lcS, wipeG, backG, noMut, rd_d, rd_o, rd_b, rdf_d, rdf_o, fz_d, fz_o, fz_b, sl_d, sl_o, ok_d, ok_o, argSl_d, argSl_o, argSl_b, items_l, items_t, items_s, rds, rdF, stOk_eq, ncO_some, nc_v, nc_own, nc_no, stOks, setAll, wG, mutAt, putAt, Sl.mu, Sl.put, argSls, noB, fewB, putB, endP, cellsOf, cellF, List.getElem?_cons_zero, List.getElem?_cons_succ, List.getElem?_nil, List.set_cons_zero, List.set_cons_succ, List.append_eq, List.nil_append, List.cons_append, List.replicate, List.take_succ_cons, List.take_zero, List.take_nil, List.filterMap_cons, List.filterMap_nil, Option.map_some, Option.map_none, List.length_cons, List.length_nil, F_add_i, F_add_s, F_add_l, F_add_t, F_int, F_cmp_i, F_cmp_s, F_in_l, F_in_t, F_in_s, F_ix_l, F_ix_t, F_ix_s, F_sl_l, F_sl_t, F_sl_s, F_len_l, F_len_t, F_len_s, F_toInt, F_toStr, F_toTup_l, F_toTup_t, F_toLst_l, F_toLst_t, F_all, F_any, F_split, F_join_l, F_join_t, F_part, F_start, F_end, F_strip, F_sorted_l, F_sorted_t, N_none, N_str, N_int, N_bool, N_tup, N_lst, S_str, S_none, S_int, S_bool, S_tup, S_lst, I_str, I_none, I_int, I_bool, I_tup, I_lst, B_str, B_none, B_int, B_bool, B_tup, B_lst, T_str, T_none, T_int, T_bool, T_tup, T_lst, L_str, L_none, L_int, L_bool, L_tup, L_lst, D_str, D_none, D_int, D_bool, D_tup, D_lst, N_dic, S_dic, I_dic, B_dic, T_dic, L_dic, D_dic, E_ss, E_ii, E_bb, E_ns, E_is, E_bs, E_nn, isA_str, isA_int, isA_bool, isA_tuple, isA_list, isA_dict, fEq, fNe, fIsN, fNotN, eqv_str, eqv_int, eqv_bool, exists_eq_left', exists_eq_left, exists_and_left, R.d.injEq, R.o.injEq, PyData.bool.injEq, PyData.str.injEq, PyData.int.injEq, PyData.tuple.injEq, PyData.list.injEq, List.cons.injEq, Option.some.injEq, and_true, true_and, and_self, Bool.not_true, Bool.not_false, Bool.false_eq_true, Bool.true_eq_false, Bool.true_and, Bool.false_and, Bool.true_or, Bool.false_or, if_true, if_false, reduceIte, reduceCtorEq, not_false_eq_true, ne_eq, true_or, or_true, false_or, or_false, List.map_nil, List.map_cons, Option.toList_some, Option.toList_none, false_and, and_false, Bool.not_eq_true, Bool.or_false, Bool.or_true, Bool.and_true, Bool.and_false]
      refine ⟨hz, c, atI_last hc, ?_⟩
      have : isItemWord (.str s) = !(sg c == Str.ofString ".") := by
        rw [sg_eq cdot]
        simp [isItemWord, isItemS, hb', hc, bne]
      rw [this] at h
      simpa [wSeq, wIfS, wRet, wRetN, wNext, wBreak, wCont, wNever, wSet, wAsg, wPar, wExpr, wFor, wApp, wPop, wSetIx, wVar, wBor, wTake, wC, wBin, wNil, wCons, wPrim, wCall, wTup, wLst, wSl, wNone, wSome, wM0, wM1, wB, wAndT, wOrT, wNotT, wAndV, wOrV, wNotV, wIf, wIsi, wIsi2, wNeg, wChain, wSortedSet, X_txl, X_txt, wIt, wIt.rdf, wRng1, wRng2, wLc, wYes, lcS, wipeG, backG, noMut, rd_d, rd_o, rd_b, rdf_d, rdf_o, fz_d, fz_o, fz_b, sl_d, sl_o, ok_d, ok_o, argSl_d, argSl_o, argSl_b, items_l, items_t, items_s, rds, rdF, stOk_eq, ncO_some, nc_v, nc_own, nc_no, stOks, setAll, wG, mutAt, putAt, Sl.mu, Sl.put, argSls, noB, fewB, putB, endP, cellsOf, cellF, List.getElem?_cons_zero, List.getElem?_cons_succ, List.getElem?_nil, List.set_cons_zero, List.set_cons_succ, List.append_eq, List.nil_append, List.cons_append, List.replicate, List.take_succ_cons, List.take_zero, List.take_nil, List.filterMap_cons, List.filterMap_nil, Option.map_some, Option.map_none, List.length_cons, List.length_nil, F_add_i, F_add_s, F_add_l, F_add_t, F_int, F_cmp_i, F_cmp_s, F_in_l, F_in_t, F_in_s, F_ix_l, F_ix_t, F_ix_s, F_sl_l, F_sl_t, F_sl_s, F_len_l, F_len_t, F_len_s, F_toInt, F_toStr, F_toTup_l, F_toTup_t, F_toLst_l, F_toLst_t, F_all, F_any, F_split, F_join_l, F_join_t, F_part, F_start, F_end, F_strip, F_sorted_l, F_sorted_t, N_none, N_str, N_int, N_bool, N_tup, N_lst, S_str, S_none, S_int, S_bool, S_tup, S_lst, I_str, I_none, I_int, I_bool, I_tup, I_lst, B_str, B_none, B_int, B_bool, B_tup, B_lst, T_str, T_none, T_int, T_bool, T_tup, T_lst, L_str, L_none, L_int, L_bool, L_tup, L_lst, D_str, D_none, D_int, D_bool, D_tup, D_lst, N_dic, S_dic, I_dic, B_dic, T_dic, L_dic, D_dic, E_ss, E_ii, E_bb, E_ns, E_is, E_bs, E_nn, isA_str, isA_int, isA_bool, isA_tuple, isA_list, isA_dict, fEq, fNe, fIsN, fNotN, eqv_str, eqv_int, eqv_bool, exists_eq_left', exists_eq_left, exists_and_left, R.d.injEq, R.o.injEq, PyData.bool.injEq, PyData.str.injEq, PyData.int.injEq, PyData.tuple.injEq, PyData.list.injEq, List.cons.injEq, Option.some.injEq, and_true, true_and, and_self, Bool.not_true, Bool.not_false, Bool.false_eq_true, Bool.true_eq_false, Bool.true_and, Bool.false_and, Bool.true_or, Bool.false_or, if_true, if_false, reduceIte, reduceCtorEq, not_false_eq_true, ne_eq, true_or, or_true, false_or, or_false, List.map_nil, List.map_cons, Option.toList_some, Option.toList_none, false_and, and_false, Bool.not_eq_true, Bool.or_false, Bool.or_true, Bool.and_true, Bool.and_false] using h
  | _ => exact h

def w_are_items : WS := (wRet (wAndV (wCall (fs_is_sequence) (wCons (wVar 0) wNil)) (wPrim fAll (wCons (wLc (wIt (wVar 0)) (.n 1) wYes (wCall (fs_is_item_word) (wCons (wVar 1) wNil)) [1]) wNil))))

def areItems : PyData → Bool
  | .list l => l.all isItemWord
  | .tuple l => l.all isItemWord
  | _ => false
def fs_are_items : FS := fun as Q _ => ∃ d, as = [.v d] ∧ okD d = true ∧ Q (.d (.bool (areItems d))) []
theorem l_are_items : ∀ as Q X, fs_are_items as Q X → as.length = 1 := by rintro as Q X ⟨d, rfl, _⟩; rfl
theorem m_are_items : ∀ as Q X, fs_are_items as Q X → w_are_items (as ++ List.replicate 1 Sl.no) (endP 1 Q X) := by
  rintro as Q X ⟨d, rfl, ok, h⟩
  simp only [w_are_items, fs_is_sequence, wSeq, wIfS, wRet, wRetN, wNext, wBreak, wCont, wNever, wSet, wAsg, wPar, wExpr, wFor, wApp, wPop, wSetIx, wVar, wBor, wTake, wC, wBin, wNil, wCons, wPrim, wCall, wTup, wLst, wSl, wNone, wSome, wM0, wM1, wB, wAndT, wOrT, wNotT, wAndV, wOrV, wNotV, wIf, wIsi, wIsi2, wNeg, wChain, wSortedSet, X_txl, X_txt, wIt, wIt.rdf, wRng1, wRng2, wLc, wYes, lcS, wipeG, backG, noMut, rd_d, rd_o, rd_b, rdf_d, rdf_o, fz_d, fz_o, fz_b, sl_d, sl_o, ok_d, ok_o, argSl_d, argSl_o, argSl_b, items_l, items_t, items_s, rds, rdF, stOk_eq, ncO_some, nc_v, nc_own, nc_no, stOks, setAll, wG, mutAt, putAt, Sl.mu, Sl.put, argSls, noB, fewB, putB, endP, cellsOf, cellF, List.getElem?_cons_zero, List.getElem?_cons_succ, List.getElem?_nil, List.set_cons_zero, List.set_cons_succ, List.append_eq, List.nil_append, List.cons_append, List.replicate, List.take_succ_cons, List.take_zero, List.take_nil, List.filterMap_cons, List.filterMap_nil, Option.map_some, Option.map_none, List.length_cons, List.length_nil, F_add_i, F_add_s, F_add_l, F_add_t, F_int, F_cmp_i, F_cmp_s, F_in_l, F_in_t, F_in_s, F_ix_l, F_ix_t, F_ix_s, F_sl_l, F_sl_t, F_sl_s, F_len_l, F_len_t, F_len_s, F_toInt, F_toStr, F_toTup_l, F_toTup_t, F_toLst_l, F_toLst_t, F_all, F_any, F_split, F_join_l, F_join_t, F_part, F_start, F_end, F_strip, F_sorted_l, F_sorted_t, N_none, N_str, N_int, N_bool, N_tup, N_lst, S_str, S_none, S_int, S_bool, S_tup, S_lst, I_str, I_none, I_int, I_bool, I_tup, I_lst, B_str, B_none, B_int, B_bool, B_tup, B_lst, T_str, T_none, T_int, T_bool, T_tup, T_lst, L_str, L_none, L_int, L_bool, L_tup, L_lst, D_str, D_none, D_int, D_bool, D_tup, D_lst, N_dic, S_dic, I_dic, B_dic, T_dic, L_dic, D_dic, E_ss, E_ii, E_bb, E_ns, E_is, E_bs, E_nn, isA_str, isA_int, isA_bool, isA_tuple, isA_list, isA_dict, fEq, fNe, fIsN, fNotN, eqv_str, eqv_int, eqv_bool, exists_eq_left', exists_eq_left, exists_and_left, R.d.injEq, R.o.injEq, PyData.bool.injEq, PyData.str.injEq, PyData.int.injEq, PyData.tuple.injEq, PyData.list.injEq, List.cons.injEq, Option.some.injEq, and_true, true_and, and_self, Bool.not_true, Bool.not_false, Bool.false_eq_true, Bool.true_eq_false, Bool.true_and, Bool.false_and, Bool.true_or, Bool.false_or, if_true, if_false, reduceIte, reduceCtorEq, not_false_eq_true, ne_eq, true_or, or_true, false_or, or_false, List.map_nil, List.map_cons, Option.toList_some, Option.toList_none, false_and, and_false, Bool.not_eq_true, Bool.or_false, Bool.or_true, Bool.and_true, Bool.and_false]
  refine ⟨d, rfl, ?_⟩
  have key : ∀ l : List PyData, (∀ x ∈ l, okD x = true) → ∀ Fin : List PyData → G → Prop, Fin (l.map fun x => .bool (isItemWord x)) [Sl.v d, .no] → ∃ I, I [] [] [Sl.v d, .no] ∧ LcI (.n 1) wYes (wCall fs_is_item_word (wCons (wVar 1) wNil)) [1] Fin l I := fun l hl Fin hf => by
    refine lcI_map (fun x => .bool (isItemWord x)) (fun x hx Kn kn => ?_) hf
    simp only [fs_is_item_word, wSeq, wIfS, wRet, wRetN, wNext, wBreak, wCont, wNever, wSet, wAsg, wPar, wExpr, wFor, wApp, wPop, wSetIx, wVar, wBor, wTake, wC, wBin, wNil, wCons, wPrim, wCall, wTup, wLst, wSl, wNone, wSome, wM0, wM1, wB, wAndT, wOrT, wNotT, wAndV, wOrV, wNotV, wIf, wIsi, wIsi2, wNeg, wChain, wSortedSet, X_txl, X_txt, wIt, wIt.rdf, wRng1, wRng2, wLc, wYes, lcS, wipeG, backG, noMut, rd_d, rd_o, rd_b, rdf_d, rdf_o, fz_d, fz_o, fz_b, sl_d, sl_o, ok_d, ok_o, argSl_d, argSl_o, argSl_b, items_l, items_t, items_s, rds, rdF, stOk_eq, ncO_some, nc_v, nc_own, nc_no, stOks, setAll, wG, mutAt, putAt, Sl.mu, Sl.put, argSls, noB, fewB, putB, endP, cellsOf, cellF, List.getElem?_cons_zero, List.getElem?_cons_succ, List.getElem?_nil, List.set_cons_zero, List.set_cons_succ, List.append_eq, List.nil_append, List.cons_append, List.replicate, List.take_succ_cons, List.take_zero, List.take_nil, List.filterMap_cons, List.filterMap_nil, Option.map_some, Option.map_none, List.length_cons, List.length_nil, F_add_i, F_add_s, F_add_l, F_add_t, F_int, F_cmp_i, F_cmp_s, F_in_l, F_in_t, F_in_s, F_ix_l, F_ix_t, F_ix_s, F_sl_l, F_sl_t, F_sl_s, F_len_l, F_len_t, F_len_s, F_toInt, F_toStr, F_toTup_l, F_toTup_t, F_toLst_l, F_toLst_t, F_all, F_any, F_split, F_join_l, F_join_t, F_part, F_start, F_end, F_strip, F_sorted_l, F_sorted_t, N_none, N_str, N_int, N_bool, N_tup, N_lst, S_str, S_none, S_int, S_bool, S_tup, S_lst, I_str, I_none, I_int, I_bool, I_tup, I_lst, B_str, B_none, B_int, B_bool, B_tup, B_lst, T_str, T_none, T_int, T_bool, T_tup, T_lst, L_str, L_none, L_int, L_bool, L_tup, L_lst, D_str, D_none, D_int, D_bool, D_tup, D_lst, N_dic, S_dic, I_dic, B_dic, T_dic, L_dic, D_dic, E_ss, E_ii, E_bb, E_ns, E_is, E_bs, E_nn, isA_str, isA_int, isA_bool, isA_tuple, isA_list, isA_dict, fEq, fNe, fIsN, fNotN, eqv_str, eqv_int, eqv_bool, exists_eq_left', exists_eq_left, exists_and_left, R.d.injEq, R.o.injEq, PyData.bool.injEq, PyData.str.injEq, PyData.int.injEq, PyData.tuple.injEq, PyData.list.injEq, List.cons.injEq, Option.some.injEq, and_true, true_and, and_self, Bool.not_true, Bool.not_false, Bool.false_eq_true, Bool.true_eq_false, Bool.true_and, Bool.false_and, Bool.true_or, Bool.false_or, if_true, if_false, reduceIte, reduceCtorEq, not_false_eq_true, ne_eq, true_or, or_true, false_or, or_false, List.map_nil, List.map_cons, Option.toList_some, Option.toList_none, false_and, and_false, Bool.not_eq_true, Bool.or_false, Bool.or_true, Bool.and_true, Bool.and_false]
    exact ⟨x, rfl, hl x hx, kn⟩
  cases d with
  | list l =>
    simp only [isSeq, wSeq, wIfS, wRet, wRetN, wNext, wBreak, wCont, wNever, wSet, wAsg, wPar, wExpr, wFor, wApp, wPop, wSetIx, wVar, wBor, wTake, wC, wBin, wNil, wCons, wPrim, wCall, wTup, wLst, wSl, wNone, wSome, wM0, wM1, wB, wAndT, wOrT, wNotT, wAndV, wOrV, wNotV, wIf, wIsi, wIsi2, wNeg, wChain, wSortedSet, X_txl, X_txt, wIt, wIt.rdf, wRng1, wRng2, wLc, wYes, lcS, wipeG, backG, noMut, rd_d, rd_o, rd_b, rdf_d, rdf_o, fz_d, fz_o, fz_b, sl_d, sl_o, ok_d, ok_o, argSl_d, argSl_o, argSl_b, items_l, items_t, items_s, rds, rdF, stOk_eq, ncO_some, nc_v, nc_own, nc_no, stOks, setAll, wG, mutAt, putAt, Sl.mu, Sl.put, argSls, noB, fewB, putB, endP, cellsOf, cellF, List.getElem?_cons_zero, List.getElem?_cons_succ, List.getElem?_nil, List.set_cons_zero, List.set_cons_succ, List.append_eq, List.nil_append, List.cons_append, List.replicate, List.take_succ_cons, List.take_zero, List.take_nil, List.filterMap_cons, List.filterMap_nil, Option.map_some, Option.map_none, List.length_cons, List.length_nil, F_add_i, F_add_s, F_add_l, F_add_t, F_int, F_cmp_i, F_cmp_s, F_in_l, F_in_t, F_in_s, F_ix_l, F_ix_t, F_ix_s, F_sl_l, F_sl_t, F_sl_s, F_len_l, F_len_t, F_len_s, F_toInt, F_toStr, F_toTup_l, F_toTup_t, F_toLst_l, F_toLst_t, F_all, F_any, F_split, F_join_l, F_join_t, F_part, F_start, F_end, F_strip, F_sorted_l, F_sorted_t, N_none, N_str, N_int, N_bool, N_tup, N_lst, S_str, S_none, S_int, S_bool, S_tup, S_lst, I_str, I_none, I_int, I_bool, I_tup, I_lst, B_str, B_none, B_int, B_bool, B_tup, B_lst, T_str, T_none, T_int, T_bool, T_tup, T_lst, L_str, L_none, L_int, L_bool, L_tup, L_lst, D_str, D_none, D_int, D_bool, D_tup, D_lst, N_dic, S_dic, I_dic, B_dic, T_dic, L_dic, D_dic, E_ss, E_ii, E_bb, E_ns, E_is, E_bs, E_nn, isA_str, isA_int, isA_bool, isA_tuple, isA_list, isA_dict, fEq, fNe, fIsN, fNotN, eqv_str, eqv_int, eqv_bool, exists_eq_left', exists_eq_left, exists_and_left, R.d.injEq, R.o.injEq, PyData.bool.injEq, PyData.str.injEq, PyData.int.injEq, PyData.tuple.injEq, PyData.list.injEq, List.cons.injEq, Option.some.injEq, and_true, true_and, and_self, Bool.not_true, Bool.not_false, Bool.false_eq_true, Bool.true_eq_false, Bool.true_and, Bool.false_and, Bool.true_or, Bool.false_or, if_true, if_false, reduceIte, reduceCtorEq, not_false_eq_true, ne_eq, true_or, or_true, false_or, or_false, List.map_nil, List.map_cons, Option.toList_some, Option.toList_none, false_and, and_false, Bool.not_eq_true, Bool.or_false, Bool.or_true, Bool.and_true, Bool.and_false]
    refine ⟨lz (len_lst ok), key l (of_lst ok) _ ⟨_, bools_map _ _, ?_⟩⟩
    simp only [wSeq, wIfS, wRet, wRetN, wNext, wBreak, wCont, wNever, wSet, wAsg, wPar, wExpr, wFor, wApp, wPop, wSetIx, wVar, wBor, wTake, wC, wBin, wNil, wCons, wPrim, wCall, wTup, wLst, wSl, wNone, wSome, wM0, wM1, wB, wAndT, wOrT, wNotT, wAndV, wOrV, wNotV, wIf, wIsi, wIsi2, wNeg, wChain, wSortedSet, X_txl, X_txt, wIt, wIt.rdf, wRng1, wRng2, wLc, wYes, lcS, wipeG, backG, noMut, rd_d, rd_o, rd_b, rdf_d, rdf_o, fz_d, fz_o, fz_b, sl_d, sl_o, ok_d, ok_o, argSl_d, argSl_o, argSl_b, items_l, items_t, items_s, rds, rdF, stOk_eq, ncO_some, nc_v, nc_own, nc_no, stOks, setAll, wG, mutAt, putAt, Sl.mu, Sl.put, argSls, noB, fewB, putB, endP, cellsOf, cellF, List.getElem?_cons_zero, List.getElem?_cons_succ, List.getElem?_nil, List.set_cons_zero, List.set_cons_succ, List.append_eq, List.nil_append, List.cons_append, List.replicate, List.take_succ_cons, List.take_zero, List.take_nil, List.filterMap_cons, List.filterMap_nil, Option.map_some, Option.map_none, List.length_cons, List.length_nil, List.all_map]
    exact h
  | tuple l =>
    simp only [isSeq, wSeq, wIfS, wRet, wRetN, wNext, wBreak, wCont, wNever, wSet, wAsg, wPar, wExpr, wFor, wApp, wPop, wSetIx, wVar, wBor, wTake, wC, wBin, wNil, wCons, wPrim, wCall, wTup, wLst, wSl, wNone, wSome, wM0, wM1, wB, wAndT, wOrT, wNotT, wAndV, wOrV, wNotV, wIf, wIsi, wIsi2, wNeg, wChain, wSortedSet, X_txl, X_txt, wIt, wIt.rdf, wRng1, wRng2, wLc, wYes, lcS, wipeG, backG, noMut, rd_d, rd_o, rd_b, rdf_d, rdf_o, fz_d, fz_o, fz_b, sl_d, sl_o, ok_d, ok_o, argSl_d, argSl_o, argSl_b, items_l, items_t, items_s, rds, rdF, stOk_eq, ncO_some, nc_v, nc_own, nc_no, stOks, setAll, wG, mutAt, putAt, Sl.mu, Sl.put, argSls, noB, fewB, putB, endP, cellsOf, cellF, List.getElem?_cons_zero, List.getElem?_cons_succ, List.getElem?_nil, List.set_cons_zero, List.set_cons_succ, List.append_eq, List.nil_append, List.cons_append, List.replicate, List.take_succ_cons, List.take_zero, List.take_nil, List.filterMap_cons, List.filterMap_nil, Option.map_some, Option.map_none, List.length_cons, List.length_nil, F_add_i, F_add_s, F_add_l, F_add_t, F_int, F_cmp_i, F_cmp_s, F_in_l, F_in_t, F_in_s, F_ix_l, F_ix_t, F_ix_s, F_sl_l, F_sl_t, F_sl_s, F_len_l, F_len_t, F_len_s, F_toInt, F_toStr, F_toTup_l, F_toTup_t, F_toLst_l, F_toLst_t, F_all, F_any, F_split, F_join_l, F_join_t, F_part, F_start, F_end, F_strip, F_sorted_l, F_sorted_t, N_none, N_str, N_int, N_bool, N_tup, N_lst, S_str, S_none, S_int, S_bool, S_tup, S_lst, I_str, I_none, I_int, I_bool, I_tup, I_lst, B_str, B_none, B_int, B_bool, B_tup, B_lst, T_str, T_none, T_int, T_bool, T_tup, T_lst, L_str, L_none, L_int, L_bool, L_tup, L_lst, D_str, D_none, D_int, D_bool, D_tup, D_lst, N_dic, S_dic, I_dic, B_dic, T_dic, L_dic, D_dic, E_ss, E_ii, E_bb, E_ns, E_is, E_bs, E_nn, isA_str, isA_int, isA_bool, isA_tuple, isA_list, isA_dict, fEq, fNe, fIsN, fNotN, eqv_str, eqv_int, eqv_bool, exists_eq_left', exists_eq_left, exists_and_left, R.d.injEq, R.o.injEq, PyData.bool.injEq, PyData.str.injEq, PyData.int.injEq, PyData.tuple.injEq, PyData.list.injEq, List.cons.injEq, Option.some.injEq, and_true, true_and, and_self, Bool.not_true, Bool.not_false, Bool.false_eq_true, Bool.true_eq_false, Bool.true_and, Bool.false_and, Bool.true_or, Bool.false_or, if_true, if_false, reduceIte, reduceCtorEq, not_false_eq_true, ne_eq, true_or, or_true, false_or, or_false, List.map_nil, List.map_cons, Option.toList_some, Option.toList_none, false_and, and_false, Bool.not_eq_true, Bool.or_false, Bool.or_true, Bool.and_true, Bool.and_false]
    refine ⟨lz (len_tup ok), key l (of_tup ok) _ ⟨_, bools_map _ _, ?_⟩⟩
    simp only [wSeq, wIfS, wRet, wRetN, wNext, wBreak, wCont, wNever, wSet, wAsg, wPar, wExpr, wFor, wApp, wPop, wSetIx, wVar, wBor, wTake, wC, wBin, wNil, wCons, wPrim, wCall, wTup, wLst, wSl, wNone, wSome, wM0, wM1, wB, wAndT, wOrT, wNotT, wAndV, wOrV, wNotV, wIf, wIsi, wIsi2, wNeg, wChain, wSortedSet, X_txl, X_txt, wIt, wIt.rdf, wRng1, wRng2, wLc, wYes, lcS, wipeG, backG, noMut, rd_d, rd_o, rd_b, rdf_d, rdf_o, fz_d, fz_o, fz_b, sl_d, sl_o, ok_d, ok_o, argSl_d, argSl_o, argSl_b, items_l, items_t, items_s, rds, rdF, stOk_eq, ncO_some, nc_v, nc_own, nc_no, stOks, setAll, wG, mutAt, putAt, Sl.mu, Sl.put, argSls, noB, fewB, putB, endP, cellsOf, cellF, List.getElem?_cons_zero, List.getElem?_cons_succ, List.getElem?_nil, List.set_cons_zero, List.set_cons_succ, List.append_eq, List.nil_append, List.cons_append, List.replicate, List.take_succ_cons, List.take_zero, List.take_nil, List.filterMap_cons, List.filterMap_nil, Option.map_some, Option.map_none, List.length_cons, List.length_nil, List.all_map]
    exact h
  | _ => exact h

def w_is_meaning_row_1 : WS := (wRet (wCall (fs_are_items) (wCons (wVar 5) wNil)))
def w_is_meaning_row_2 : WS := (wSeq (wIfS (wB (wBin fIsN (wBor 5) (wC PyData.none))) (wRet (wAndV (wBin fEq (wPrim fLen (wCons (wBor 2) wNil)) (wC (PyData.int 0))) (wBin fEq (wPrim fLen (wCons (wBor 4) wNil)) (wC (PyData.int 0))))) wNext) w_is_meaning_row_1)
def w_is_meaning_row_3 : WS := (wSeq (wIfS (wNotT (wB (wPrim fAll (wCons (wLc (wRng2 (wCons (wC (PyData.int 1)) (wCons (wPrim fLen (wCons (wBor 3) wNil)) wNil))) (.n 7) wYes (wBin fLt (wBin fIx (wBor 3) (wBin fSub (wBor 7) (wC (PyData.int 1)))) (wBin fIx (wBor 3) (wVar 7))) [7]) wNil)))) (wRet (wC (PyData.bool false))) wNext) w_is_meaning_row_2)
def w_is_meaning_row_4 : WS := (wSeq (wIfS (wOrT (wB (wBin fNe (wBor 1) (wC (PyData.str "around")))) (wOrT (wNotT (wB (wCall (fs_are_items) (wCons (wVar 2) wNil)))) (wOrT (wNotT (wB (wCall (fs_are_items) (wCons (wVar 3) wNil)))) (wNotT (wB (wCall (fs_are_items) (wCons (wVar 4) wNil))))))) (wRet (wC (PyData.bool false))) wNext) w_is_meaning_row_3)
def w_is_meaning_row_5 : WS := (wSeq (wAsg (wVar 0) (.t [1, 2, 3, 4, 5, 6])) w_is_meaning_row_4)
def w_is_meaning_row_6 : WS := (wSeq (wIfS (wB (wBin fEq (wPrim fLen (wCons (wBor 0) wNil)) (wC (PyData.int 3)))) (wRet (wAndV (wBin fEq (wBin fIx (wBor 0) (wC (PyData.int 0))) (wC (PyData.str "const"))) (wOrV (wBin fIsN (wBin fIx (wBor 0) (wC (PyData.int 1))) (wC PyData.none)) (wCall (fs_are_items) (wCons (wBin fIx (wBor 0) (wC (PyData.int 1))) wNil))))) wNext) w_is_meaning_row_5)
def w_is_meaning_row_7 : WS := (wSeq (wIfS (wNotT (wB (wIsi (wBin fIx (wBor 0) (wC (PyData.int 0))) "str"))) (wRet (wC (PyData.bool false))) wNext) w_is_meaning_row_6)
def w_is_meaning_row : WS := (wSeq (wIfS (wOrT (wNotT (wB (wCall (fs_is_sequence) (wCons (wVar 0) wNil)))) (wOrT (wB (wBin (fIn true) (wPrim fLen (wCons (wBor 0) wNil)) (wTup (wCons (wC (PyData.int 3)) (wCons (wC (PyData.int 6)) wNil))))) (wNotT (wB (wIsi (wBin fIx (wBor 0) (wNeg (wC (PyData.int 1)))) "bool"))))) (wRet (wC (PyData.bool false))) wNext) w_is_meaning_row_7)

def ltD : PyData → PyData → Bool
  | .str a, .str b => decide (a.cps.toList < b.cps.toList)
  | _, _ => false
def risingD (l : List PyData) : Bool := (List.range (l.length - 1)).all fun k => ltD (l.getD k .none) (l.getD (k + 1) .none)
def isRowL : List PyData → Bool
  | [w, x, b] => isBoolD b && (isStrD w && (PyData.eqv w (.str "const") && (isNone x || areItems x)))
  | [w, before, dropped, behind, dflt, b] => isBoolD b && (isStrD w && (PyData.eqv w (.str "around") && (areItems before && (areItems dropped && (areItems behind && (risingD (seqL dropped) && (if isNone dflt then (seqL before).length == 0 && (seqL behind).length == 0 else areItems dflt)))))))
  | _ => false
def isRow (d : PyData) : Bool := isSeq d && isRowL (seqL d)
def fs_is_meaning_row : FS := fun as Q _ => ∃ d, as = [.v d] ∧ sd d ∧ Q (.d (.bool (isRow d))) []
theorem l_is_meaning_row : ∀ as Q X, fs_is_meaning_row as Q X → as.length = 1 := by rintro as Q X ⟨d, rfl, _⟩; rfl
theorem inD36 (n : Nat) (h3 : n ≠ 3) (h6 : n ≠ 6) : inD (.int (n : Int)) [.int 3, .int 6] = false := by
  simp only [inD, List.any_cons, List.any_nil, eqv_int, Bool.or_false, Bool.or_eq_false_iff, beq_eq_false_iff_ne, ne_eq]
  omega
theorem all36 : ([PyData.int 3, PyData.int 6].all flat) = true := rfl
theorem areItems_strs {d : PyData} (h : areItems d = true) : ∃ ss : List Str, (d = .list (txs ss) ∨ d = .tuple (txs ss)) ∧ ∀ s ∈ ss, isItemS s = true := by
  have key : ∀ l : List PyData, l.all isItemWord = true → ∃ ss : List Str, l = txs ss ∧ ∀ s ∈ ss, isItemS s = true := fun l => by
    induction l with
    | nil => exact fun _ => ⟨[], rfl, by simp⟩
    | cons x l ih =>
      intro hl
      rw [List.all_cons, Bool.and_eq_true] at hl
      obtain ⟨ss, rfl, hs⟩ := ih hl.2
      cases x with
      | str s =>
        refine ⟨s :: ss, rfl, fun t ht => ?_⟩
        rcases List.mem_cons.mp ht with rfl | ht
        · exact hl.1
        · exact hs t ht
      | _ => exact absurd hl.1 (by simp [isItemWord])
  cases d with
  | list l => obtain ⟨ss, rfl, hs⟩ := key l h; exact ⟨ss, .inl rfl, hs⟩
  | tuple l => obtain ⟨ss, rfl, hs⟩ := key l h; exact ⟨ss, .inr rfl, hs⟩
  | _ => cases h
theorem m_row3 (d a b c : PyData) (hd : d = .list [a, b, c] ∨ d = .tuple [a, b, c]) (ok : sd d) (Q : R → List (List PyData) → Prop) (X : XN → Prop) (h : Q (.d (.bool (isRowL [a, b, c]))) []) : w_is_meaning_row ([.v d] ++ List.replicate 7 Sl.no) (endP 1 Q X) := by
  have os : sds [a, b, c] := by
    rcases hd with rfl | rfl
    · exact sd_lst ok
    · exact sd_tup ok
  have oa := os a (by simp)
  have ob := os b (by simp)
  have i0 : atI [a, b, c] 0 = some a := rfl
  have i1 : atI [a, b, c] 1 = some b := rfl
  have i2 : atI [a, b, c] (-1) = some c := rfl
  have l3 : PyData.int (0 + 1 + 1 + 1 : Nat) = .int 3 := rfl
  have d3 : inD (.int 3) [.int 3, .int 6] = true := by decide +kernel
  have fl : flat (.int 3) = true := rfl
  have l1000 : 0 + 1 + 1 ≤ 1000 := by decide
  have e3 : ((0 + 1 + 1 + 1 : Nat) : Int) = 3 := rfl
  have e33 : ((3 : Int) == 3) = true := rfl
  simp only [w_is_meaning_row, fs_is_sequence, wSeq, wIfS, wRet, wRetN, wNext, wBreak, wCont, wNever, wSet, wAsg, wPar, wExpr, wFor, wApp, wPop, wSetIx, wVar, wBor, wTake, wC, wBin, wNil, wCons, wPrim, wCall, wTup, wLst, wSl, wNone, wSome, wM0, wM1, wB, wAndT, wOrT, wNotT, wAndV, wOrV, wNotV, wIf, wIsi, wIsi2, wNeg, wChain, wSortedSet, X_txl, X_txt, wIt, wIt.rdf, wRng1, wRng2, wLc, wYes, lcS, wipeG, backG, noMut, rd_d, rd_o, rd_b, rdf_d, rdf_o, fz_d, fz_o, fz_b, sl_d, sl_o, ok_d, ok_o, argSl_d, argSl_o, argSl_b, items_l, items_t, items_s, rds, rdF, stOk_eq, ncO_some, nc_v, nc_own, nc_no, stOks, setAll, wG, mutAt, putAt, Sl.mu, Sl.put, argSls, noB, fewB, putB, endP, cellsOf, cellF, List.getElem?_cons_zero, List.getElem?_cons_succ, List.getElem?_nil, List.set_cons_zero, List.set_cons_succ, List.append_eq, List.nil_append, List.cons_append, List.replicate, List.take_succ_cons, List.take_zero, List.take_nil, List.filterMap_cons, List.filterMap_nil, Option.map_some, Option.map_none, List.length_cons, List.length_nil, F_add_i, F_add_s, F_add_l, F_add_t, F_int, F_cmp_i, F_cmp_s, F_in_l, F_in_t, F_in_s, F_ix_l, F_ix_t, F_ix_s, F_sl_l, F_sl_t, F_sl_s, F_len_l, F_len_t, F_len_s, F_toInt, F_toStr, F_toTup_l, F_toTup_t, F_toLst_l, F_toLst_t, F_all, F_any, F_split, F_join_l, F_join_t, F_part, F_start, F_end, F_strip, F_sorted_l, F_sorted_t, N_none, N_str, N_int, N_bool, N_tup, N_lst, S_str, S_none, S_int, S_bool, S_tup, S_lst, I_str, I_none, I_int, I_bool, I_tup, I_lst, B_str, B_none, B_int, B_bool, B_tup, B_lst, T_str, T_none, T_int, T_bool, T_tup, T_lst, L_str, L_none, L_int, L_bool, L_tup, L_lst, D_str, D_none, D_int, D_bool, D_tup, D_lst, N_dic, S_dic, I_dic, B_dic, T_dic, L_dic, D_dic, E_ss, E_ii, E_bb, E_ns, E_is, E_bs, E_nn, isA_str, isA_int, isA_bool, isA_tuple, isA_list, isA_dict, fEq, fNe, fIsN, fNotN, eqv_str, eqv_int, eqv_bool, exists_eq_left', exists_eq_left, exists_and_left, R.d.injEq, R.o.injEq, PyData.bool.injEq, PyData.str.injEq, PyData.int.injEq, PyData.tuple.injEq, PyData.list.injEq, List.cons.injEq, Option.some.injEq, and_true, true_and, and_self, Bool.not_true, Bool.not_false, Bool.false_eq_true, Bool.true_eq_false, Bool.true_and, Bool.false_and, Bool.true_or, Bool.false_or, if_true, if_false, reduceIte, reduceCtorEq, not_false_eq_true, ne_eq, true_or, or_true, false_or, or_false, List.map_nil, List.map_cons, Option.toList_some, Option.toList_none, false_and, and_false, Bool.not_eq_true, Bool.or_false, Bool.or_true, Bool.and_true, Bool.and_false]
  refine ⟨_, rfl, ?_⟩
  rcases hd with rfl | rfl <;> simp only [isSeq, wSeq, wIfS, wRet, wRetN, wNext, wBreak, wCont, wNever, wSet, wAsg, wPar, wExpr, wFor, wApp, wPop, wSetIx, wVar, wBor, wTake, wC, wBin, wNil, wCons, wPrim, wCall, wTup, wLst, wSl, wNone, wSome, wM0, wM1, wB, wAndT, wOrT, wNotT, wAndV, wOrV, wNotV, wIf, wIsi, wIsi2, wNeg, wChain, wSortedSet, X_txl, X_txt, wIt, wIt.rdf, wRng1, wRng2, wLc, wYes, lcS, wipeG, backG, noMut, rd_d, rd_o, rd_b, rdf_d, rdf_o, fz_d, fz_o, fz_b, sl_d, sl_o, ok_d, ok_o, argSl_d, argSl_o, argSl_b, items_l, items_t, items_s, rds, rdF, stOk_eq, ncO_some, nc_v, nc_own, nc_no, stOks, setAll, wG, mutAt, putAt, Sl.mu, Sl.put, argSls, noB, fewB, putB, endP, cellsOf, cellF, List.getElem?_cons_zero, List.getElem?_cons_succ, List.getElem?_nil, List.set_cons_zero, List.set_cons_succ, List.append_eq, List.nil_append, List.cons_append, List.replicate, List.take_succ_cons, List.take_zero, List.take_nil, List.filterMap_cons, List.filterMap_nil, Option.map_some, Option.map_none, List.length_cons, List.length_nil, F_add_i, F_add_s, F_add_l, F_add_t, F_int, F_cmp_i, F_cmp_s, F_in_l, F_in_t, F_in_s, F_ix_l, F_ix_t, F_ix_s, F_sl_l, F_sl_t, F_sl_s, F_len_l, F_len_t, F_len_s, F_toInt, F_toStr, F_toTup_l, F_toTup_t, F_toLst_l, F_toLst_t, F_all, F_any, F_split, F_join_l, F_join_t, F_part, F_start, F_end, F_strip, F_sorted_l, F_sorted_t, N_none, N_str, N_int, N_bool, N_tup, N_lst, S_str, S_none, S_int, S_bool, S_tup, S_lst, I_str, I_none, I_int, I_bool, I_tup, I_lst, B_str, B_none, B_int, B_bool, B_tup, B_lst, T_str, T_none, T_int, T_bool, T_tup, T_lst, L_str, L_none, L_int, L_bool, L_tup, L_lst, D_str, D_none, D_int, D_bool, D_tup, D_lst, N_dic, S_dic, I_dic, B_dic, T_dic, L_dic, D_dic, E_ss, E_ii, E_bb, E_ns, E_is, E_bs, E_nn, isA_str, isA_int, isA_bool, isA_tuple, isA_list, isA_dict, fEq, fNe, fIsN, fNotN, eqv_str, eqv_int, eqv_bool, exists_eq_left', exists_eq_left, exists_and_left, R.d.injEq, R.o.injEq, PyData.bool.injEq, PyData.str.injEq, PyData.int.injEq, PyData.tuple.injEq, PyData.list.injEq, List.cons.injEq, Option.some.injEq, and_true, true_and, and_self, Bool.not_true, Bool.not_false, Bool.false_eq_true, Bool.true_eq_false, Bool.true_and, Bool.false_and, Bool.true_or, Bool.false_or, if_true, if_false, reduceIte, reduceCtorEq, not_false_eq_true, ne_eq, true_or, or_true, false_or, or_false, List.map_nil, List.map_cons, Option.toList_some, Option.toList_none, false_and, and_false, Bool.not_eq_true, Bool.or_false, Bool.or_true, Bool.and_true, Bool.and_false, l3, all36, d3, fl, l1000, i2, Option.some.injEq, w_is_meaning_row_7, i0, w_is_meaning_row_6, e3, e33, i1, fs_are_items]
  all_goals
    unfold isRowL at h
    cases hc : isBoolD c with
    | false => simpa only [hc, exists_eq_left', exists_eq_left, exists_and_left, R.d.injEq, R.o.injEq, PyData.bool.injEq, PyData.str.injEq, PyData.int.injEq, PyData.tuple.injEq, PyData.list.injEq, List.cons.injEq, Option.some.injEq, and_true, true_and, and_self, Bool.not_true, Bool.not_false, Bool.false_eq_true, Bool.true_eq_false, Bool.true_and, Bool.false_and, Bool.true_or, Bool.false_or, if_true, if_false, reduceIte, reduceCtorEq, not_false_eq_true, ne_eq, true_or, or_true, false_or, or_false, List.map_nil, List.map_cons, Option.toList_some, Option.toList_none, false_and, and_false, Bool.not_eq_true, Bool.or_false, Bool.or_true, Bool.and_true, Bool.and_false] using h
    | true =>
      cases ha : isStrD a with
      | false => simpa only [hc, ha, exists_eq_left', exists_eq_left, exists_and_left, R.d.injEq, R.o.injEq, PyData.bool.injEq, PyData.str.injEq, PyData.int.injEq, PyData.tuple.injEq, PyData.list.injEq, List.cons.injEq, Option.some.injEq, and_true, true_and, and_self, Bool.not_true, Bool.not_false, Bool.false_eq_true, Bool.true_eq_false, Bool.true_and, Bool.false_and, Bool.true_or, Bool.false_or, if_true, if_false, reduceIte, reduceCtorEq, not_false_eq_true, ne_eq, true_or, or_true, false_or, or_false, List.map_nil, List.map_cons, Option.toList_some, Option.toList_none, false_and, and_false, Bool.not_eq_true, Bool.or_false, Bool.or_true, Bool.and_true, Bool.and_false] using h
      | true =>
        simp only [hc, ha, exists_eq_left', exists_eq_left, exists_and_left, R.d.injEq, R.o.injEq, PyData.bool.injEq, PyData.str.injEq, PyData.int.injEq, PyData.tuple.injEq, PyData.list.injEq, List.cons.injEq, Option.some.injEq, and_true, true_and, and_self, Bool.not_true, Bool.not_false, Bool.false_eq_true, Bool.true_eq_false, Bool.true_and, Bool.false_and, Bool.true_or, Bool.false_or, if_true, if_false, reduceIte, reduceCtorEq, not_false_eq_true, ne_eq, true_or, or_true, false_or, or_false, List.map_nil, List.map_cons, Option.toList_some, Option.toList_none, false_and, and_false, Bool.not_eq_true, Bool.or_false, Bool.or_true, Bool.and_true, Bool.and_false] at h ⊢
        refine ⟨eqOk_sd oa (sd_str (by decide +kernel)), ?_⟩
        cases hq : PyData.eqv a (.str "const") with
        | false => simpa only [hq, exists_eq_left', exists_eq_left, exists_and_left, R.d.injEq, R.o.injEq, PyData.bool.injEq, PyData.str.injEq, PyData.int.injEq, PyData.tuple.injEq, PyData.list.injEq, List.cons.injEq, Option.some.injEq, and_true, true_and, and_self, Bool.not_true, Bool.not_false, Bool.false_eq_true, Bool.true_eq_false, Bool.true_and, Bool.false_and, Bool.true_or, Bool.false_or, if_true, if_false, reduceIte, reduceCtorEq, not_false_eq_true, ne_eq, true_or, or_true, false_or, or_false, List.map_nil, List.map_cons, Option.toList_some, Option.toList_none, false_and, and_false, Bool.not_eq_true, Bool.or_false, Bool.or_true, Bool.and_true, Bool.and_false] using h
        | true =>
          simp only [hq, exists_eq_left', exists_eq_left, exists_and_left, R.d.injEq, R.o.injEq, PyData.bool.injEq, PyData.str.injEq, PyData.int.injEq, PyData.tuple.injEq, PyData.list.injEq, List.cons.injEq, Option.some.injEq, and_true, true_and, and_self, Bool.not_true, Bool.not_false, Bool.false_eq_true, Bool.true_eq_false, Bool.true_and, Bool.false_and, Bool.true_or, Bool.false_or, if_true, if_false, reduceIte, reduceCtorEq, not_false_eq_true, ne_eq, true_or, or_true, false_or, or_false, List.map_nil, List.map_cons, Option.toList_some, Option.toList_none, false_and, and_false, Bool.not_eq_true, Bool.or_false, Bool.or_true, Bool.and_true, Bool.and_false] at h ⊢
          cases hb : isNone b with
          | true => simpa only [hb, exists_eq_left', exists_eq_left, exists_and_left, R.d.injEq, R.o.injEq, PyData.bool.injEq, PyData.str.injEq, PyData.int.injEq, PyData.tuple.injEq, PyData.list.injEq, List.cons.injEq, Option.some.injEq, and_true, true_and, and_self, Bool.not_true, Bool.not_false, Bool.false_eq_true, Bool.true_eq_false, Bool.true_and, Bool.false_and, Bool.true_or, Bool.false_or, if_true, if_false, reduceIte, reduceCtorEq, not_false_eq_true, ne_eq, true_or, or_true, false_or, or_false, List.map_nil, List.map_cons, Option.toList_some, Option.toList_none, false_and, and_false, Bool.not_eq_true, Bool.or_false, Bool.or_true, Bool.and_true, Bool.and_false] using h
          | false =>
            simp only [hb, exists_eq_left', exists_eq_left, exists_and_left, R.d.injEq, R.o.injEq, PyData.bool.injEq, PyData.str.injEq, PyData.int.injEq, PyData.tuple.injEq, PyData.list.injEq, List.cons.injEq, Option.some.injEq, and_true, true_and, and_self, Bool.not_true, Bool.not_false, Bool.false_eq_true, Bool.true_eq_false, Bool.true_and, Bool.false_and, Bool.true_or, Bool.false_or, if_true, if_false, reduceIte, reduceCtorEq, not_false_eq_true, ne_eq, true_or, or_true, false_or, or_false, List.map_nil, List.map_cons, Option.toList_some, Option.toList_none, false_and, and_false, Bool.not_eq_true, Bool.or_false, Bool.or_true, Bool.and_true, Bool.and_false] at h ⊢
            exact ⟨b, rfl, ob.1, h⟩
theorem m_row6 (d a b c e g x : PyData) (hd : d = .list [a, b, c, e, g, x] ∨ d = .tuple [a, b, c, e, g, x]) (ok : sd d) (Q : R → List (List PyData) → Prop) (X : XN → Prop) (h : Q (.d (.bool (isRowL [a, b, c, e, g, x]))) []) : w_is_meaning_row ([.v d] ++ List.replicate 7 Sl.no) (endP 1 Q X) := by
  have os : sds [a, b, c, e, g, x] := by
    rcases hd with rfl | rfl
    · exact sd_lst ok
    · exact sd_tup ok
  have oa := os a (by simp)
  have ob := os b (by simp)
  have oc := os c (by simp)
  have oe := os e (by simp)
  have og := os g (by simp)
  have i0 : atI [a, b, c, e, g, x] 0 = some a := rfl
  have i2 : atI [a, b, c, e, g, x] (-1) = some x := rfl
  have l3 : PyData.int (0 + 1 + 1 + 1 + 1 + 1 + 1 : Nat) = .int 6 := rfl
  have d3 : inD (.int 6) [.int 3, .int 6] = true := by decide +kernel
  have fl : flat (.int 6) = true := rfl
  have l1000 : 0 + 1 + 1 ≤ 1000 := by decide
  have e3 : ((0 + 1 + 1 + 1 + 1 + 1 + 1 : Nat) : Int) = 6 := rfl
  have e33 : ((6 : Int) == 3) = false := rfl
  simp only [w_is_meaning_row, fs_is_sequence, wSeq, wIfS, wRet, wRetN, wNext, wBreak, wCont, wNever, wSet, wAsg, wPar, wExpr, wFor, wApp, wPop, wSetIx, wVar, wBor, wTake, wC, wBin, wNil, wCons, wPrim, wCall, wTup, wLst, wSl, wNone, wSome, wM0, wM1, wB, wAndT, wOrT, wNotT, wAndV, wOrV, wNotV, wIf, wIsi, wIsi2, wNeg, wChain, wSortedSet, X_txl, X_txt, wIt, wIt.rdf, wRng1, wRng2, wLc, wYes, lcS, wipeG, backG, noMut, rd_d, rd_o, rd_b, rdf_d, rdf_o, fz_d, fz_o, fz_b, sl_d, sl_o, ok_d, ok_o, argSl_d, argSl_o, argSl_b, items_l, items_t, items_s, rds, rdF, stOk_eq, ncO_some, nc_v, nc_own, nc_no, stOks, setAll, wG, mutAt, putAt, Sl.mu, Sl.put, argSls, noB, fewB, putB, endP, cellsOf, cellF, List.getElem?_cons_zero, List.getElem?_cons_succ, List.getElem?_nil, List.set_cons_zero, List.set_cons_succ, List.append_eq, List.nil_append, List.cons_append, List.replicate, List.take_succ_cons, List.take_zero, List.take_nil, List.filterMap_cons, List.filterMap_nil, Option.map_some, Option.map_none, List.length_cons, List.length_nil, F_add_i, F_add_s, F_add_l, F_add_t, F_int, F_cmp_i, F_cmp_s, F_in_l, F_in_t, F_in_s, F_ix_l, F_ix_t, F_ix_s, F_sl_l, F_sl_t, F_sl_s, F_len_l, F_len_t, F_len_s, F_toInt, F_toStr, F_toTup_l, F_toTup_t, F_toLst_l, F_toLst_t, F_all, F_any, F_split, F_join_l, F_join_t, F_part, F_start, F_end, F_strip, F_sorted_l, F_sorted_t, N_none, N_str, N_int, N_bool, N_tup, N_lst, S_str, S_none, S_int, S_bool, S_tup, S_lst, I_str, I_none, I_int, I_bool, I_tup, I_lst, B_str, B_none, B_int, B_bool, B_tup, B_lst, T_str, T_none, T_int, T_bool, T_tup, T_lst, L_str, L_none, L_int, L_bool, L_tup, L_lst, D_str, D_none, D_int, D_bool, D_tup, D_lst, N_dic, S_dic, I_dic, B_dic, T_dic, L_dic, D_dic, E_ss, E_ii, E_bb, E_ns, E_is, E_bs, E_nn, isA_str, isA_int, isA_bool, isA_tuple, isA_list, isA_dict, fEq, fNe, fIsN, fNotN, eqv_str, eqv_int, eqv_bool, exists_eq_left', exists_eq_left, exists_and_left, R.d.injEq, R.o.injEq, PyData.bool.injEq, PyData.str.injEq, PyData.int.injEq, PyData.tuple.injEq, PyData.list.injEq, List.cons.injEq, Option.some.injEq, and_true, true_and, and_self, Bool.not_true, Bool.not_false, Bool.false_eq_true, Bool.true_eq_false, Bool.true_and, Bool.false_and, Bool.true_or, Bool.false_or, if_true, if_false, reduceIte, reduceCtorEq, not_false_eq_true, ne_eq, true_or, or_true, false_or, or_false, List.map_nil, List.map_cons, Option.toList_some, Option.toList_none, false_and, and_false, Bool.not_eq_true, Bool.or_false, Bool.or_true, Bool.and_true, Bool.and_false]
  refine ⟨_, rfl, ?_⟩
  rcases hd with rfl | rfl <;> simp only [isSeq, wSeq, wIfS, wRet, wRetN, wNext, wBreak, wCont, wNever, wSet, wAsg, wPar, wExpr, wFor, wApp, wPop, wSetIx, wVar, wBor, wTake, wC, wBin, wNil, wCons, wPrim, wCall, wTup, wLst, wSl, wNone, wSome, wM0, wM1, wB, wAndT, wOrT, wNotT, wAndV, wOrV, wNotV, wIf, wIsi, wIsi2, wNeg, wChain, wSortedSet, X_txl, X_txt, wIt, wIt.rdf, wRng1, wRng2, wLc, wYes, lcS, wipeG, backG, noMut, rd_d, rd_o, rd_b, rdf_d, rdf_o, fz_d, fz_o, fz_b, sl_d, sl_o, ok_d, ok_o, argSl_d, argSl_o, argSl_b, items_l, items_t, items_s, rds, rdF, stOk_eq, ncO_some, nc_v, nc_own, nc_no, stOks, setAll, wG, mutAt, putAt, Sl.mu, Sl.put, argSls, noB, fewB, putB, endP, cellsOf, cellF, List.getElem?_cons_zero, List.getElem?_cons_succ, List.getElem?_nil, List.set_cons_zero, List.set_cons_succ, List.append_eq, List.nil_append, List.cons_append, List.replicate, List.take_succ_cons, List.take_zero, List.take_nil, List.filterMap_cons, List.filterMap_nil, Option.map_some, Option.map_none, List.length_cons, List.length_nil, F_add_i, F_add_s, F_add_l, F_add_t, F_int, F_cmp_i, F_cmp_s, F_in_l, F_in_t, F_in_s, F_ix_l, F_ix_t, F_ix_s, F_sl_l, F_sl_t, F_sl_s, F_len_l, F_len_t, F_len_s, F_toInt, F_toStr, F_toTup_l, F_toTup_t, F_toLst_l, F_toLst_t, F_all, F_any, F_split, F_join_l, F_join_t, F_part, F_start, F_end, F_strip, F_sorted_l, F_sorted_t, N_none, N_str, N_int, N_bool, N_tup, N_lst, S_str, S_none, S_int, S_bool, S_tup, S_lst, I_str, I_none, I_int, I_bool, I_tup, I_lst, B_str, B_none, B_int, B_bool, B_tup, B_lst, T_str, T_none, T_int, T_bool, T_tup, T_lst, L_str, L_none, L_int, L_bool, L_tup, L_lst, D_str, D_none, D_int, D_bool, D_tup, D_lst, N_dic, S_dic, I_dic, B_dic, T_dic, L_dic, D_dic, E_ss, E_ii, E_bb, E_ns, E_is, E_bs, E_nn, isA_str, isA_int, isA_bool, isA_tuple, isA_list, isA_dict, fEq, fNe, fIsN, fNotN, eqv_str, eqv_int, eqv_bool, exists_eq_left', exists_eq_left, exists_and_left, R.d.injEq, R.o.injEq, PyData.bool.injEq, PyData.str.injEq, PyData.int.injEq, PyData.tuple.injEq, PyData.list.injEq, List.cons.injEq, Option.some.injEq, and_true, true_and, and_self, Bool.not_true, Bool.not_false, Bool.false_eq_true, Bool.true_eq_false, Bool.true_and, Bool.false_and, Bool.true_or, Bool.false_or, if_true, if_false, reduceIte, reduceCtorEq, not_false_eq_true, ne_eq, true_or, or_true, false_or, or_false, List.map_nil, List.map_cons, Option.toList_some, Option.toList_none, false_and, and_false, Bool.not_eq_true, Bool.or_false, Bool.or_true, Bool.and_true, Bool.and_false, l3, all36, d3, fl, l1000, i2, Option.some.injEq, w_is_meaning_row_7, i0, w_is_meaning_row_6, e3, e33, w_is_meaning_row_5, w_is_meaning_row_4, w_is_meaning_row_3, fs_are_items]
  all_goals
    unfold isRowL at h
    cases hc : isBoolD x with
    | false => simpa only [hc, exists_eq_left', exists_eq_left, exists_and_left, R.d.injEq, R.o.injEq, PyData.bool.injEq, PyData.str.injEq, PyData.int.injEq, PyData.tuple.injEq, PyData.list.injEq, List.cons.injEq, Option.some.injEq, and_true, true_and, and_self, Bool.not_true, Bool.not_false, Bool.false_eq_true, Bool.true_eq_false, Bool.true_and, Bool.false_and, Bool.true_or, Bool.false_or, if_true, if_false, reduceIte, reduceCtorEq, not_false_eq_true, ne_eq, true_or, or_true, false_or, or_false, List.map_nil, List.map_cons, Option.toList_some, Option.toList_none, false_and, and_false, Bool.not_eq_true, Bool.or_false, Bool.or_true, Bool.and_true, Bool.and_false] using h
    | true =>
    cases ha : isStrD a with
    | false => simpa only [hc, ha, exists_eq_left', exists_eq_left, exists_and_left, R.d.injEq, R.o.injEq, PyData.bool.injEq, PyData.str.injEq, PyData.int.injEq, PyData.tuple.injEq, PyData.list.injEq, List.cons.injEq, Option.some.injEq, and_true, true_and, and_self, Bool.not_true, Bool.not_false, Bool.false_eq_true, Bool.true_eq_false, Bool.true_and, Bool.false_and, Bool.true_or, Bool.false_or, if_true, if_false, reduceIte, reduceCtorEq, not_false_eq_true, ne_eq, true_or, or_true, false_or, or_false, List.map_nil, List.map_cons, Option.toList_some, Option.toList_none, false_and, and_false, Bool.not_eq_true, Bool.or_false, Bool.or_true, Bool.and_true, Bool.and_false] using h
    | true =>
    simp only [hc, ha, exists_eq_left', exists_eq_left, exists_and_left, R.d.injEq, R.o.injEq, PyData.bool.injEq, PyData.str.injEq, PyData.int.injEq, PyData.tuple.injEq, PyData.list.injEq, List.cons.injEq, Option.some.injEq, and_true, true_and, and_self, Bool.not_true, Bool.not_false, Bool.false_eq_true, Bool.true_eq_false, Bool.true_and, Bool.false_and, Bool.true_or, Bool.false_or, if_true, if_false, reduceIte, reduceCtorEq, not_false_eq_true, ne_eq, true_or, or_true, false_or, or_false, List.map_nil, List.map_cons, Option.toList_some, Option.toList_none, false_and, and_false, Bool.not_eq_true, Bool.or_false, Bool.or_true, Bool.and_true, Bool.and_false] at h ⊢
    refine ⟨eqOk_sd oa (sd_str (by decide +kernel)), ?_⟩
    cases hq : PyData.eqv a (.str "around") with
    | false => simpa only [hq, exists_eq_left', exists_eq_left, exists_and_left, R.d.injEq, R.o.injEq, PyData.bool.injEq, PyData.str.injEq, PyData.int.injEq, PyData.tuple.injEq, PyData.list.injEq, List.cons.injEq, Option.some.injEq, and_true, true_and, and_self, Bool.not_true, Bool.not_false, Bool.false_eq_true, Bool.true_eq_false, Bool.true_and, Bool.false_and, Bool.true_or, Bool.false_or, if_true, if_false, reduceIte, reduceCtorEq, not_false_eq_true, ne_eq, true_or, or_true, false_or, or_false, List.map_nil, List.map_cons, Option.toList_some, Option.toList_none, false_and, and_false, Bool.not_eq_true, Bool.or_false, Bool.or_true, Bool.and_true, Bool.and_false] using h
    | true =>
    simp only [hq, exists_eq_left', exists_eq_left, exists_and_left, R.d.injEq, R.o.injEq, PyData.bool.injEq, PyData.str.injEq, PyData.int.injEq, PyData.tuple.injEq, PyData.list.injEq, List.cons.injEq, Option.some.injEq, and_true, true_and, and_self, Bool.not_true, Bool.not_false, Bool.false_eq_true, Bool.true_eq_false, Bool.true_and, Bool.false_and, Bool.true_or, Bool.false_or, if_true, if_false, reduceIte, reduceCtorEq, not_false_eq_true, ne_eq, true_or, or_true, false_or, or_false, List.map_nil, List.map_cons, Option.toList_some, Option.toList_none, false_and, and_false, Bool.not_eq_true, Bool.or_false, Bool.or_true, Bool.and_true, Bool.and_false] at h ⊢
    refine ⟨b, rfl, ob.1, ?_⟩
    cases hb : areItems b with
    | false => simpa only [hb, exists_eq_left', exists_eq_left, exists_and_left, R.d.injEq, R.o.injEq, PyData.bool.injEq, PyData.str.injEq, PyData.int.injEq, PyData.tuple.injEq, PyData.list.injEq, List.cons.injEq, Option.some.injEq, and_true, true_and, and_self, Bool.not_true, Bool.not_false, Bool.false_eq_true, Bool.true_eq_false, Bool.true_and, Bool.false_and, Bool.true_or, Bool.false_or, if_true, if_false, reduceIte, reduceCtorEq, not_false_eq_true, ne_eq, true_or, or_true, false_or, or_false, List.map_nil, List.map_cons, Option.toList_some, Option.toList_none, false_and, and_false, Bool.not_eq_true, Bool.or_false, Bool.or_true, Bool.and_true, Bool.and_false] using h
    | true =>
    simp only [hb, exists_eq_left', exists_eq_left, exists_and_left, R.d.injEq, R.o.injEq, PyData.bool.injEq, PyData.str.injEq, PyData.int.injEq, PyData.tuple.injEq, PyData.list.injEq, List.cons.injEq, Option.some.injEq, and_true, true_and, and_self, Bool.not_true, Bool.not_false, Bool.false_eq_true, Bool.true_eq_false, Bool.true_and, Bool.false_and, Bool.true_or, Bool.false_or, if_true, if_false, reduceIte, reduceCtorEq, not_false_eq_true, ne_eq, true_or, or_true, false_or, or_false, List.map_nil, List.map_cons, Option.toList_some, Option.toList_none, false_and, and_false, Bool.not_eq_true, Bool.or_false, Bool.or_true, Bool.and_true, Bool.and_false] at h ⊢
    refine ⟨c, rfl, oc.1, ?_⟩
    cases hcc : areItems c with
    | false => simpa only [hcc, exists_eq_left', exists_eq_left, exists_and_left, R.d.injEq, R.o.injEq, PyData.bool.injEq, PyData.str.injEq, PyData.int.injEq, PyData.tuple.injEq, PyData.list.injEq, List.cons.injEq, Option.some.injEq, and_true, true_and, and_self, Bool.not_true, Bool.not_false, Bool.false_eq_true, Bool.true_eq_false, Bool.true_and, Bool.false_and, Bool.true_or, Bool.false_or, if_true, if_false, reduceIte, reduceCtorEq, not_false_eq_true, ne_eq, true_or, or_true, false_or, or_false, List.map_nil, List.map_cons, Option.toList_some, Option.toList_none, false_and, and_false, Bool.not_eq_true, Bool.or_false, Bool.or_true, Bool.and_true, Bool.and_false] using h
    | true =>
    simp only [hcc, exists_eq_left', exists_eq_left, exists_and_left, R.d.injEq, R.o.injEq, PyData.bool.injEq, PyData.str.injEq, PyData.int.injEq, PyData.tuple.injEq, PyData.list.injEq, List.cons.injEq, Option.some.injEq, and_true, true_and, and_self, Bool.not_true, Bool.not_false, Bool.false_eq_true, Bool.true_eq_false, Bool.true_and, Bool.false_and, Bool.true_or, Bool.false_or, if_true, if_false, reduceIte, reduceCtorEq, not_false_eq_true, ne_eq, true_or, or_true, false_or, or_false, List.map_nil, List.map_cons, Option.toList_some, Option.toList_none, false_and, and_false, Bool.not_eq_true, Bool.or_false, Bool.or_true, Bool.and_true, Bool.and_false] at h ⊢
    refine ⟨e, rfl, oe.1, ?_⟩
    cases he : areItems e with
    | false => simpa only [he, exists_eq_left', exists_eq_left, exists_and_left, R.d.injEq, R.o.injEq, PyData.bool.injEq, PyData.str.injEq, PyData.int.injEq, PyData.tuple.injEq, PyData.list.injEq, List.cons.injEq, Option.some.injEq, and_true, true_and, and_self, Bool.not_true, Bool.not_false, Bool.false_eq_true, Bool.true_eq_false, Bool.true_and, Bool.false_and, Bool.true_or, Bool.false_or, if_true, if_false, reduceIte, reduceCtorEq, not_false_eq_true, ne_eq, true_or, or_true, false_or, or_false, List.map_nil, List.map_cons, Option.toList_some, Option.toList_none, false_and, and_false, Bool.not_eq_true, Bool.or_false, Bool.or_true, Bool.and_true, Bool.and_false] using h
    | true =>
    simp only [he, exists_eq_left', exists_eq_left, exists_and_left, R.d.injEq, R.o.injEq, PyData.bool.injEq, PyData.str.injEq, PyData.int.injEq, PyData.tuple.injEq, PyData.list.injEq, List.cons.injEq, Option.some.injEq, and_true, true_and, and_self, Bool.not_true, Bool.not_false, Bool.false_eq_true, Bool.true_eq_false, Bool.true_and, Bool.false_and, Bool.true_or, Bool.false_or, if_true, if_false, reduceIte, reduceCtorEq, not_false_eq_true, ne_eq, true_or, or_true, false_or, or_false, List.map_nil, List.map_cons, Option.toList_some, Option.toList_none, false_and, and_false, Bool.not_eq_true, Bool.or_false, Bool.or_true, Bool.and_true, Bool.and_false] at h ⊢
    obtain ⟨ss, hss, hit⟩ := areItems_strs hcc
    obtain ⟨sb, hsb, _⟩ := areItems_strs hb
    obtain ⟨se, hse, _⟩ := areItems_strs he
    have hlz : ss.length ≤ 1000000 := by
      rcases hss with rfl | rfl
      · have := len_lst oc.1; simpa using this
      · have := len_tup oc.1; simpa using this
    have esc : seqL c = txs ss := by rcases hss with rfl | rfl <;> rfl
    have esb : seqL b = txs sb := by rcases hsb with rfl | rfl <;> rfl
    have ese : seqL e = txs se := by rcases hse with rfl | rfl <;> rfl
    rw [esc, esb, ese] at h
    have hr : inR ((ss.length : Nat) : Int) := inR_of hlz
    have hat : ∀ k : Nat, k < ss.length → atI (txs ss) ((k : Nat) : Int) = some (.str (ss.getD k "")) := fun k hk => by
      refine atI_nat ?_
      simp [txs, hk, List.getD]
    have key : ∀ (cd : PyData) (Fin : List PyData → G → Prop), (cd = .list (txs ss) ∨ cd = .tuple (txs ss)) → ∀ G0 : PyData, (Fin ((List.range (ss.length - 1)).map fun k => .bool (ltD ((txs ss).getD k .none) ((txs ss).getD (k + 1) .none))) [.v G0, .v a, .v b, .v cd, .v e, .v g, .v x, .no]) →
        ∃ I, I [] [] [.v G0, .v a, .v b, .v cd, .v e, .v g, .v x, .no] ∧ LcI (.n 7) wYes (wBin fLt (wBin fIx (wBor 3) (wBin fSub (wBor 7) (wC (.int 1)))) (wBin fIx (wBor 3) (wVar 7))) [7] Fin (rangeL 1 (((ss.length : Nat) : Int) - 1).toNat) I := fun cd Fin hcd G0 hfin => by
      refine lcI_mapE (List.range (ss.length - 1)) (fun (k : Nat) => .int (1 + k)) (fun k => .bool (ltD ((txs ss).getD k .none) ((txs ss).getD (k + 1) .none))) ?_ (fun k hk Kn kn => ?_) hfin
      · rw [rangeL_map, show (((ss.length : Nat) : Int) - 1).toNat = ss.length - 1 by omega]
      · have hk := List.mem_range.mp hk
        have h1 := hat k (by omega)
        have h2 := hat (k + 1) (by omega)
        rw [show ((k + 1 : Nat) : Int) = 1 + (k : Int) by omega] at h2
        have g1 : (txs ss).getD k .none = .str (ss.getD k "") := by simp [txs, List.getD, show k < ss.length by omega]
        have g2 : (txs ss).getD (k + 1) .none = .str (ss.getD (k + 1) "") := by simp [txs, List.getD, show k + 1 < ss.length by omega]
        rw [g1, g2] at kn
        have ek : (1 : Int) + (k : Int) - 1 = (k : Int) := by omega
        rcases hcd with rfl | rfl <;> simp only [wSeq, wIfS, wRet, wRetN, wNext, wBreak, wCont, wNever, wSet, wAsg, wPar, wExpr, wFor, wApp, wPop, wSetIx, wVar, wBor, wTake, wC, wBin, wNil, wCons, wPrim, wCall, wTup, wLst, wSl, wNone, wSome, wM0, wM1, wB, wAndT, wOrT, wNotT, wAndV, wOrV, wNotV, wIf, wIsi, wIsi2, wNeg, wChain, wSortedSet, X_txl, X_txt, wIt, wIt.rdf, wRng1, wRng2, wLc, wYes, lcS, wipeG, backG, noMut, rd_d, rd_o, rd_b, rdf_d, rdf_o, fz_d, fz_o, fz_b, sl_d, sl_o, ok_d, ok_o, argSl_d, argSl_o, argSl_b, items_l, items_t, items_s, rds, rdF, stOk_eq, ncO_some, nc_v, nc_own, nc_no, stOks, setAll, wG, mutAt, putAt, Sl.mu, Sl.put, argSls, noB, fewB, putB, endP, cellsOf, cellF, List.getElem?_cons_zero, List.getElem?_cons_succ, List.getElem?_nil, List.set_cons_zero, List.set_cons_succ, List.append_eq, List.nil_append, List.cons_append, List.replicate, List.take_succ_cons, List.take_zero, List.take_nil, List.filterMap_cons, List.filterMap_nil, Option.map_some, Option.map_none, List.length_cons, List.length_nil, F_add_i, F_add_s, F_add_l, F_add_t, F_int, F_cmp_i, F_cmp_s, F_in_l, F_in_t, F_in_s, F_ix_l, F_ix_t, F_ix_s, F_sl_l, F_sl_t, F_sl_s, F_len_l, F_len_t, F_len_s, F_toInt, F_toStr, F_toTup_l, F_toTup_t, F_toLst_l, F_toLst_t, F_all, F_any, F_split, F_join_l, F_join_t, F_part, F_start, F_end, F_strip, F_sorted_l, F_sorted_t, N_none, N_str, N_int, N_bool, N_tup, N_lst, S_str, S_none, S_int, S_bool, S_tup, S_lst, I_str, I_none, I_int, I_bool, I_tup, I_lst, B_str, B_none, B_int, B_bool, B_tup, B_lst, T_str, T_none, T_int, T_bool, T_tup, T_lst, L_str, L_none, L_int, L_bool, L_tup, L_lst, D_str, D_none, D_int, D_bool, D_tup, D_lst, N_dic, S_dic, I_dic, B_dic, T_dic, L_dic, D_dic, E_ss, E_ii, E_bb, E_ns, E_is, E_bs, E_nn, isA_str, isA_int, isA_bool, isA_tuple, isA_list, isA_dict, fEq, fNe, fIsN, fNotN, eqv_str, eqv_int, eqv_bool, exists_eq_left', exists_eq_left, exists_and_left, R.d.injEq, R.o.injEq, PyData.bool.injEq, PyData.str.injEq, PyData.int.injEq, PyData.tuple.injEq, PyData.list.injEq, List.cons.injEq, Option.some.injEq, and_true, true_and, and_self, Bool.not_true, Bool.not_false, Bool.false_eq_true, Bool.true_eq_false, Bool.true_and, Bool.false_and, Bool.true_or, Bool.false_or, if_true, if_false, reduceIte, reduceCtorEq, not_false_eq_true, ne_eq, true_or, or_true, false_or, or_false, List.map_nil, List.map_cons, Option.toList_some, Option.toList_none, false_and, and_false, Bool.not_eq_true, Bool.or_false, Bool.or_true, Bool.and_true, Bool.and_false, ek, h1, h2] <;> exact kn
    have er : ((List.range (ss.length - 1)).map fun k => ltD ((txs ss).getD k .none) ((txs ss).getD (k + 1) .none)).all id = risingD (txs ss) := by
      unfold risingD
      rw [List.all_map, List.length_map]
      rfl
    have lz0 : ∀ n : Nat, (((n : Nat) : Int) == 0) = (n == 0) := fun n => by
      rw [Bool.eq_iff_iff]; simp
    have rz : (rangeL 1 (((ss.length : Nat) : Int) - 1).toNat).length < sizeLine := by
      rw [rangeL_map, List.length_map, List.length_range]
      exact lz (by omega)
    rcases hss with rfl | rfl <;> simp only [wSeq, wIfS, wRet, wRetN, wNext, wBreak, wCont, wNever, wSet, wAsg, wPar, wExpr, wFor, wApp, wPop, wSetIx, wVar, wBor, wTake, wC, wBin, wNil, wCons, wPrim, wCall, wTup, wLst, wSl, wNone, wSome, wM0, wM1, wB, wAndT, wOrT, wNotT, wAndV, wOrV, wNotV, wIf, wIsi, wIsi2, wNeg, wChain, wSortedSet, X_txl, X_txt, wIt, wIt.rdf, wRng1, wRng2, wLc, wYes, lcS, wipeG, backG, noMut, rd_d, rd_o, rd_b, rdf_d, rdf_o, fz_d, fz_o, fz_b, sl_d, sl_o, ok_d, ok_o, argSl_d, argSl_o, argSl_b, items_l, items_t, items_s, rds, rdF, stOk_eq, ncO_some, nc_v, nc_own, nc_no, stOks, setAll, wG, mutAt, putAt, Sl.mu, Sl.put, argSls, noB, fewB, putB, endP, cellsOf, cellF, List.getElem?_cons_zero, List.getElem?_cons_succ, List.getElem?_nil, List.set_cons_zero, List.set_cons_succ, List.append_eq, List.nil_append, List.cons_append, List.replicate, List.take_succ_cons, List.take_zero, List.take_nil, List.filterMap_cons, List.filterMap_nil, Option.map_some, Option.map_none, List.length_cons, List.length_nil, F_add_i, F_add_s, F_add_l, F_add_t, F_int, F_cmp_i, F_cmp_s, F_in_l, F_in_t, F_in_s, F_ix_l, F_ix_t, F_ix_s, F_sl_l, F_sl_t, F_sl_s, F_len_l, F_len_t, F_len_s, F_toInt, F_toStr, F_toTup_l, F_toTup_t, F_toLst_l, F_toLst_t, F_all, F_any, F_split, F_join_l, F_join_t, F_part, F_start, F_end, F_strip, F_sorted_l, F_sorted_t, N_none, N_str, N_int, N_bool, N_tup, N_lst, S_str, S_none, S_int, S_bool, S_tup, S_lst, I_str, I_none, I_int, I_bool, I_tup, I_lst, B_str, B_none, B_int, B_bool, B_tup, B_lst, T_str, T_none, T_int, T_bool, T_tup, T_lst, L_str, L_none, L_int, L_bool, L_tup, L_lst, D_str, D_none, D_int, D_bool, D_tup, D_lst, N_dic, S_dic, I_dic, B_dic, T_dic, L_dic, D_dic, E_ss, E_ii, E_bb, E_ns, E_is, E_bs, E_nn, isA_str, isA_int, isA_bool, isA_tuple, isA_list, isA_dict, fEq, fNe, fIsN, fNotN, eqv_str, eqv_int, eqv_bool, exists_eq_left', exists_eq_left, exists_and_left, R.d.injEq, R.o.injEq, PyData.bool.injEq, PyData.str.injEq, PyData.int.injEq, PyData.tuple.injEq, PyData.list.injEq, List.cons.injEq, Option.some.injEq, and_true, true_and, and_self, Bool.not_true, Bool.not_false, Bool.false_eq_true, Bool.true_eq_false, Bool.true_and, Bool.false_and, Bool.true_or, Bool.false_or, if_true, if_false, reduceIte, reduceCtorEq, not_false_eq_true, ne_eq, true_or, or_true, false_or, or_false, List.map_nil, List.map_cons, Option.toList_some, Option.toList_none, false_and, and_false, Bool.not_eq_true, Bool.or_false, Bool.or_true, Bool.and_true, Bool.and_false, List.length_map, hr, exists_eq']
    · refine ⟨1, _, ⟨rfl, rfl⟩, inR_c, hr, rz, key _ _ (.inl rfl) _ ⟨_, bools_map _ _, ?_⟩⟩
      rw [er]
      cases hrs : risingD (txs ss) with
      | false => simpa only [hrs, wSeq, wIfS, wRet, wRetN, wNext, wBreak, wCont, wNever, wSet, wAsg, wPar, wExpr, wFor, wApp, wPop, wSetIx, wVar, wBor, wTake, wC, wBin, wNil, wCons, wPrim, wCall, wTup, wLst, wSl, wNone, wSome, wM0, wM1, wB, wAndT, wOrT, wNotT, wAndV, wOrV, wNotV, wIf, wIsi, wIsi2, wNeg, wChain, wSortedSet, X_txl, X_txt, wIt, wIt.rdf, wRng1, wRng2, wLc, wYes, lcS, wipeG, backG, noMut, rd_d, rd_o, rd_b, rdf_d, rdf_o, fz_d, fz_o, fz_b, sl_d, sl_o, ok_d, ok_o, argSl_d, argSl_o, argSl_b, items_l, items_t, items_s, rds, rdF, stOk_eq, ncO_some, nc_v, nc_own, nc_no, stOks, setAll, wG, mutAt, putAt, Sl.mu, Sl.put, argSls, noB, fewB, putB, endP, cellsOf, cellF, List.getElem?_cons_zero, List.getElem?_cons_succ, List.getElem?_nil, List.set_cons_zero, List.set_cons_succ, List.append_eq, List.nil_append, List.cons_append, List.replicate, List.take_succ_cons, List.take_zero, List.take_nil, List.filterMap_cons, List.filterMap_nil, Option.map_some, Option.map_none, List.length_cons, List.length_nil, exists_eq_left', exists_eq_left, exists_and_left, R.d.injEq, R.o.injEq, PyData.bool.injEq, PyData.str.injEq, PyData.int.injEq, PyData.tuple.injEq, PyData.list.injEq, List.cons.injEq, Option.some.injEq, and_true, true_and, and_self, Bool.not_true, Bool.not_false, Bool.false_eq_true, Bool.true_eq_false, Bool.true_and, Bool.false_and, Bool.true_or, Bool.false_or, if_true, if_false, reduceIte, reduceCtorEq, not_false_eq_true, ne_eq, true_or, or_true, false_or, or_false, List.map_nil, List.map_cons, Option.toList_some, Option.toList_none, false_and, and_false, Bool.not_eq_true, Bool.or_false, Bool.or_true, Bool.and_true, Bool.and_false] using h
      | true =>
        simp only [hrs, w_is_meaning_row_2, wSeq, wIfS, wRet, wRetN, wNext, wBreak, wCont, wNever, wSet, wAsg, wPar, wExpr, wFor, wApp, wPop, wSetIx, wVar, wBor, wTake, wC, wBin, wNil, wCons, wPrim, wCall, wTup, wLst, wSl, wNone, wSome, wM0, wM1, wB, wAndT, wOrT, wNotT, wAndV, wOrV, wNotV, wIf, wIsi, wIsi2, wNeg, wChain, wSortedSet, X_txl, X_txt, wIt, wIt.rdf, wRng1, wRng2, wLc, wYes, lcS, wipeG, backG, noMut, rd_d, rd_o, rd_b, rdf_d, rdf_o, fz_d, fz_o, fz_b, sl_d, sl_o, ok_d, ok_o, argSl_d, argSl_o, argSl_b, items_l, items_t, items_s, rds, rdF, stOk_eq, ncO_some, nc_v, nc_own, nc_no, stOks, setAll, wG, mutAt, putAt, Sl.mu, Sl.put, argSls, noB, fewB, putB, endP, cellsOf, cellF, List.getElem?_cons_zero, List.getElem?_cons_succ, List.getElem?_nil, List.set_cons_zero, List.set_cons_succ, List.append_eq, List.nil_append, List.cons_append, List.replicate, List.take_succ_cons, List.take_zero, List.take_nil, List.filterMap_cons, List.filterMap_nil, Option.map_some, Option.map_none, List.length_cons, List.length_nil, F_add_i, F_add_s, F_add_l, F_add_t, F_int, F_cmp_i, F_cmp_s, F_in_l, F_in_t, F_in_s, F_ix_l, F_ix_t, F_ix_s, F_sl_l, F_sl_t, F_sl_s, F_len_l, F_len_t, F_len_s, F_toInt, F_toStr, F_toTup_l, F_toTup_t, F_toLst_l, F_toLst_t, F_all, F_any, F_split, F_join_l, F_join_t, F_part, F_start, F_end, F_strip, F_sorted_l, F_sorted_t, N_none, N_str, N_int, N_bool, N_tup, N_lst, S_str, S_none, S_int, S_bool, S_tup, S_lst, I_str, I_none, I_int, I_bool, I_tup, I_lst, B_str, B_none, B_int, B_bool, B_tup, B_lst, T_str, T_none, T_int, T_bool, T_tup, T_lst, L_str, L_none, L_int, L_bool, L_tup, L_lst, D_str, D_none, D_int, D_bool, D_tup, D_lst, N_dic, S_dic, I_dic, B_dic, T_dic, L_dic, D_dic, E_ss, E_ii, E_bb, E_ns, E_is, E_bs, E_nn, isA_str, isA_int, isA_bool, isA_tuple, isA_list, isA_dict, fEq, fNe, fIsN, fNotN, eqv_str, eqv_int, eqv_bool, exists_eq_left', exists_eq_left, exists_and_left, R.d.injEq, R.o.injEq, PyData.bool.injEq, PyData.str.injEq, PyData.int.injEq, PyData.tuple.injEq, PyData.list.injEq, List.cons.injEq, Option.some.injEq, and_true, true_and, and_self, Bool.not_true, Bool.not_false, Bool.false_eq_true, Bool.true_eq_false, Bool.true_and, Bool.false_and, Bool.true_or, Bool.false_or, if_true, if_false, reduceIte, reduceCtorEq, not_false_eq_true, ne_eq, true_or, or_true, false_or, or_false, List.map_nil, List.map_cons, Option.toList_some, Option.toList_none, false_and, and_false, Bool.not_eq_true, Bool.or_false, Bool.or_true, Bool.and_true, Bool.and_false] at h ⊢
        cases hn : isNone g with
        | true =>
          simp only [hn, exists_eq_left', exists_eq_left, exists_and_left, R.d.injEq, R.o.injEq, PyData.bool.injEq, PyData.str.injEq, PyData.int.injEq, PyData.tuple.injEq, PyData.list.injEq, List.cons.injEq, Option.some.injEq, and_true, true_and, and_self, Bool.not_true, Bool.not_false, Bool.false_eq_true, Bool.true_eq_false, Bool.true_and, Bool.false_and, Bool.true_or, Bool.false_or, if_true, if_false, reduceIte, reduceCtorEq, not_false_eq_true, ne_eq, true_or, or_true, false_or, or_false, List.map_nil, List.map_cons, Option.toList_some, Option.toList_none, false_and, and_false, Bool.not_eq_true, Bool.or_false, Bool.or_true, Bool.and_true, Bool.and_false] at h ⊢
          rcases hsb with rfl | rfl <;> rcases hse with rfl | rfl <;> simp only [wSeq, wIfS, wRet, wRetN, wNext, wBreak, wCont, wNever, wSet, wAsg, wPar, wExpr, wFor, wApp, wPop, wSetIx, wVar, wBor, wTake, wC, wBin, wNil, wCons, wPrim, wCall, wTup, wLst, wSl, wNone, wSome, wM0, wM1, wB, wAndT, wOrT, wNotT, wAndV, wOrV, wNotV, wIf, wIsi, wIsi2, wNeg, wChain, wSortedSet, X_txl, X_txt, wIt, wIt.rdf, wRng1, wRng2, wLc, wYes, lcS, wipeG, backG, noMut, rd_d, rd_o, rd_b, rdf_d, rdf_o, fz_d, fz_o, fz_b, sl_d, sl_o, ok_d, ok_o, argSl_d, argSl_o, argSl_b, items_l, items_t, items_s, rds, rdF, stOk_eq, ncO_some, nc_v, nc_own, nc_no, stOks, setAll, wG, mutAt, putAt, Sl.mu, Sl.put, argSls, noB, fewB, putB, endP, cellsOf, cellF, List.getElem?_cons_zero, List.getElem?_cons_succ, List.getElem?_nil, List.set_cons_zero, List.set_cons_succ, List.append_eq, List.nil_append, List.cons_append, List.replicate, List.take_succ_cons, List.take_zero, List.take_nil, List.filterMap_cons, List.filterMap_nil, Option.map_some, Option.map_none, List.length_cons, List.length_nil, F_add_i, F_add_s, F_add_l, F_add_t, F_int, F_cmp_i, F_cmp_s, F_in_l, F_in_t, F_in_s, F_ix_l, F_ix_t, F_ix_s, F_sl_l, F_sl_t, F_sl_s, F_len_l, F_len_t, F_len_s, F_toInt, F_toStr, F_toTup_l, F_toTup_t, F_toLst_l, F_toLst_t, F_all, F_any, F_split, F_join_l, F_join_t, F_part, F_start, F_end, F_strip, F_sorted_l, F_sorted_t, N_none, N_str, N_int, N_bool, N_tup, N_lst, S_str, S_none, S_int, S_bool, S_tup, S_lst, I_str, I_none, I_int, I_bool, I_tup, I_lst, B_str, B_none, B_int, B_bool, B_tup, B_lst, T_str, T_none, T_int, T_bool, T_tup, T_lst, L_str, L_none, L_int, L_bool, L_tup, L_lst, D_str, D_none, D_int, D_bool, D_tup, D_lst, N_dic, S_dic, I_dic, B_dic, T_dic, L_dic, D_dic, E_ss, E_ii, E_bb, E_ns, E_is, E_bs, E_nn, isA_str, isA_int, isA_bool, isA_tuple, isA_list, isA_dict, fEq, fNe, fIsN, fNotN, eqv_str, eqv_int, eqv_bool, exists_eq_left', exists_eq_left, exists_and_left, R.d.injEq, R.o.injEq, PyData.bool.injEq, PyData.str.injEq, PyData.int.injEq, PyData.tuple.injEq, PyData.list.injEq, List.cons.injEq, Option.some.injEq, and_true, true_and, and_self, Bool.not_true, Bool.not_false, Bool.false_eq_true, Bool.true_eq_false, Bool.true_and, Bool.false_and, Bool.true_or, Bool.false_or, if_true, if_false, reduceIte, reduceCtorEq, not_false_eq_true, ne_eq, true_or, or_true, false_or, or_false, List.map_nil, List.map_cons, Option.toList_some, Option.toList_none, false_and, and_false, Bool.not_eq_true, Bool.or_false, Bool.or_true, Bool.and_true, Bool.and_false, lz0] <;> (cases hz : ((txs sb).length == 0) <;> simpa only [hz, exists_eq_left', exists_eq_left, exists_and_left, R.d.injEq, R.o.injEq, PyData.bool.injEq, PyData.str.injEq, PyData.int.injEq, PyData.tuple.injEq, PyData.list.injEq, List.cons.injEq, Option.some.injEq, and_true, true_and, and_self, Bool.not_true, Bool.not_false, Bool.false_eq_true, Bool.true_eq_false, Bool.true_and, Bool.false_and, Bool.true_or, Bool.false_or, if_true, if_false, reduceIte, reduceCtorEq, not_false_eq_true, ne_eq, true_or, or_true, false_or, or_false, List.map_nil, List.map_cons, Option.toList_some, Option.toList_none, false_and, and_false, Bool.not_eq_true, Bool.or_false, Bool.or_true, Bool.and_true, Bool.and_false] using h)
        | false =>
          simp only [hn, w_is_meaning_row_1, fs_are_items, wSeq, wIfS, wRet, wRetN, wNext, wBreak, wCont, wNever, wSet, wAsg, wPar, wExpr, wFor, wApp, wPop, wSetIx, wVar, wBor, wTake, wC, wBin, wNil, wCons, wPrim, wCall, wTup, wLst, wSl, wNone, wSome, wM0, wM1, wB, wAndT, wOrT, wNotT, wAndV, wOrV, wNotV, wIf, wIsi, wIsi2, wNeg, wChain, wSortedSet, X_txl, X_txt, wIt, wIt.rdf, wRng1, wRng2, wLc, wYes, lcS, wipeG, backG, noMut, rd_d, rd_o, rd_b, rdf_d, rdf_o, fz_d, fz_o, fz_b, sl_d, sl_o, ok_d, ok_o, argSl_d, argSl_o, argSl_b, items_l, items_t, items_s, rds, rdF, stOk_eq, ncO_some, nc_v, nc_own, nc_no, stOks, setAll, wG, mutAt, putAt, Sl.mu, Sl.put, argSls, noB, fewB, putB, endP, cellsOf, cellF, List.getElem?_cons_zero, List.getElem?_cons_succ, List.getElem?_nil, List.set_cons_zero, List.set_cons_succ, List.append_eq, List.nil_append, List.cons_append, List.replicate, List.take_succ_cons, List.take_zero, List.take_nil, List.filterMap_cons, List.filterMap_nil, Option.map_some, Option.map_none, List.length_cons, List.length_nil, F_add_i, F_add_s, F_add_l, F_add_t, F_int, F_cmp_i, F_cmp_s, F_in_l, F_in_t, F_in_s, F_ix_l, F_ix_t, F_ix_s, F_sl_l, F_sl_t, F_sl_s, F_len_l, F_len_t, F_len_s, F_toInt, F_toStr, F_toTup_l, F_toTup_t, F_toLst_l, F_toLst_t, F_all, F_any, F_split, F_join_l, F_join_t, F_part, F_start, F_end, F_strip, F_sorted_l, F_sorted_t, N_none, N_str, N_int, N_bool, N_tup, N_lst, S_str, S_none, S_int, S_bool, S_tup, S_lst, I_str, I_none, I_int, I_bool, I_tup, I_lst, B_str, B_none, B_int, B_bool, B_tup, B_lst, T_str, T_none, T_int, T_bool, T_tup, T_lst, L_str, L_none, L_int, L_bool, L_tup, L_lst, D_str, D_none, D_int, D_bool, D_tup, D_lst, N_dic, S_dic, I_dic, B_dic, T_dic, L_dic, D_dic, E_ss, E_ii, E_bb, E_ns, E_is, E_bs, E_nn, isA_str, isA_int, isA_bool, isA_tuple, isA_list, isA_dict, fEq, fNe, fIsN, fNotN, eqv_str, eqv_int, eqv_bool, exists_eq_left', exists_eq_left, exists_and_left, R.d.injEq, R.o.injEq, PyData.bool.injEq, PyData.str.injEq, PyData.int.injEq, PyData.tuple.injEq, PyData.list.injEq, List.cons.injEq, Option.some.injEq, and_true, true_and, and_self, Bool.not_true, Bool.not_false, Bool.false_eq_true, Bool.true_eq_false, Bool.true_and, Bool.false_and, Bool.true_or, Bool.false_or, if_true, if_false, reduceIte, reduceCtorEq, not_false_eq_true, ne_eq, true_or, or_true, false_or, or_false, List.map_nil, List.map_cons, Option.toList_some, Option.toList_none, false_and, and_false, Bool.not_eq_true, Bool.or_false, Bool.or_true, Bool.and_true, Bool.and_false] at h ⊢
          exact ⟨g, rfl, og.1, h⟩
    · refine ⟨1, _, ⟨rfl, rfl⟩, inR_c, hr, rz, key _ _ (.inr rfl) _ ⟨_, bools_map _ _, ?_⟩⟩
      rw [er]
      cases hrs : risingD (txs ss) with
      | false => simpa only [hrs, wSeq, wIfS, wRet, wRetN, wNext, wBreak, wCont, wNever, wSet, wAsg, wPar, wExpr, wFor, wApp, wPop, wSetIx, wVar, wBor, wTake, wC, wBin, wNil, wCons, wPrim, wCall, wTup, wLst, wSl, wNone, wSome, wM0, wM1, wB, wAndT, wOrT, wNotT, wAndV, wOrV, wNotV, wIf, wIsi, wIsi2, wNeg, wChain, wSortedSet, X_txl, X_txt, wIt, wIt.rdf, wRng1, wRng2, wLc, wYes, lcS, wipeG, backG, noMut, rd_d, rd_o, rd_b, rdf_d, rdf_o, fz_d, fz_o, fz_b, sl_d, sl_o, ok_d, ok_o, argSl_d, argSl_o, argSl_b, items_l, items_t, items_s, rds, rdF, stOk_eq, ncO_some, nc_v, nc_own, nc_no, stOks, setAll, wG, mutAt, putAt, Sl.mu, Sl.put, argSls, noB, fewB, putB, endP, cellsOf, cellF, List.getElem?_cons_zero, List.getElem?_cons_succ, List.getElem?_nil, List.set_cons_zero, List.set_cons_succ, List.append_eq, List.nil_append, List.cons_append, List.replicate, List.take_succ_cons, List.take_zero, List.take_nil, List.filterMap_cons, List.filterMap_nil, Option.map_some, Option.map_none, List.length_cons, List.length_nil, exists_eq_left', exists_eq_left, exists_and_left, R.d.injEq, R.o.injEq, PyData.bool.injEq, PyData.str.injEq, PyData.int.injEq, PyData.tuple.injEq, PyData.list.injEq, List.cons.injEq, Option.some.injEq, and_true, true_and, and_self, Bool.not_true, Bool.not_false, Bool.false_eq_true, Bool.true_eq_false, Bool.true_and, Bool.false_and, Bool.true_or, Bool.false_or, if_true, if_false, reduceIte, reduceCtorEq, not_false_eq_true, ne_eq, true_or, or_true, false_or, or_false, List.map_nil, List.map_cons, Option.toList_some, Option.toList_none, false_and, and_false, Bool.not_eq_true, Bool.or_false, Bool.or_true, Bool.and_true, Bool.and_false] using h
      | true =>
        simp only [hrs, w_is_meaning_row_2, wSeq, wIfS, wRet, wRetN, wNext, wBreak, wCont, wNever, wSet, wAsg, wPar, wExpr, wFor, wApp, wPop, wSetIx, wVar, wBor, wTake, wC, wBin, wNil, wCons, wPrim, wCall, wTup, wLst, wSl, wNone, wSome, wM0, wM1, wB, wAndT, wOrT, wNotT, wAndV, wOrV, wNotV, wIf, wIsi, wIsi2, wNeg, wChain, wSortedSet, X_txl, X_txt, wIt, wIt.rdf, wRng1, wRng2, wLc, wYes, lcS, wipeG, backG, noMut, rd_d, rd_o, rd_b, rdf_d, rdf_o, fz_d, fz_o, fz_b, sl_d, sl_o, ok_d, ok_o, argSl_d, argSl_o, argSl_b, items_l, items_t, items_s, rds, rdF, stOk_eq, ncO_some, nc_v, nc_own, nc_no, stOks, setAll, wG, mutAt, putAt, Sl.mu, Sl.put, argSls, noB, fewB, putB, endP, cellsOf, cellF, List.getElem?_cons_zero, List.getElem?_cons_succ, List.getElem?_nil, List.set_cons_zero, List.set_cons_succ, List.append_eq, List.nil_append, List.cons_append, List.replicate, List.take_succ_cons, List.take_zero, List.take_nil, List.filterMap_cons, List.filterMap_nil, Option.map_some, Option.map_none, List.length_cons, List.length_nil, F_add_i, F_add_s, F_add_l, F_add_t, F_int, F_cmp_i, F_cmp_s, F_in_l, F_in_t, F_in_s, F_ix_l, F_ix_t, F_ix_s, F_sl_l, F_sl_t, F_sl_s, F_len_l, F_len_t, F_len_s, F_toInt, F_toStr, F_toTup_l, F_toTup_t, F_toLst_l, F_toLst_t, F_all, F_any, F_split, F_join_l, F_join_t, F_part, F_start, F_end, F_strip, F_sorted_l, F_sorted_t, N_none, N_str, N_int, N_bool, N_tup, N_lst, S_str, S_none, S_int, S_bool, S_tup, S_lst, I_str, I_none, I_int, I_bool, I_tup, I_lst, B_str, B_none, B_int, B_bool, B_tup, B_lst, T_str, T_none, T_int, T_bool, T_tup, T_lst, L_str, L_none, L_int, L_bool, L_tup, L_lst, D_str, D_none, D_int, D_bool, D_tup, D_lst, N_dic, S_dic, I_dic, B_dic, T_dic, L_dic, D_dic, E_ss, E_ii, E_bb, E_ns, E_is, E_bs, E_nn, isA_str, isA_int, isA_bool, isA_tuple, isA_list, isA_dict, fEq, fNe, fIsN, fNotN, eqv_str, eqv_int, eqv_bool, exists_eq_left', exists_eq_left, exists_and_left, R.d.injEq, R.o.injEq, PyData.bool.injEq, PyData.str.injEq, PyData.int.injEq, PyData.tuple.injEq, PyData.list.injEq, List.cons.injEq, Option.some.injEq, and_true, true_and, and_self, Bool.not_true, Bool.not_false, Bool.false_eq_true, Bool.true_eq_false, Bool.true_and, Bool.false_and, Bool.true_or, Bool.false_or, if_true, if_false, reduceIte, reduceCtorEq, not_false_eq_true, ne_eq, true_or, or_true, false_or, or_false, List.map_nil, List.map_cons, Option.toList_some, Option.toList_none, false_and, and_false, Bool.not_eq_true, Bool.or_false, Bool.or_true, Bool.and_true, Bool.and_false] at h ⊢
        cases hn : isNone g with
        | true =>
          simp only [hn, exists_eq_left', exists_eq_left, exists_and_left, R.d.injEq, R.o.injEq, PyData.bool.injEq, PyData.str.injEq, PyData.int.injEq, PyData.tuple.injEq, PyData.list.injEq, List.cons.injEq, Option.some.injEq, and_true, true_and, and_self, Bool.not_true, Bool.not_false, Bool.false_eq_true, Bool.true_eq_false, Bool.true_and, Bool.false_and, Bool.true_or, Bool.false_or, if_true, if_false, reduceIte, reduceCtorEq, not_false_eq_true, ne_eq, true_or, or_true, false_or, or_false, List.map_nil, List.map_cons, Option.toList_some, Option.toList_none, false_and, and_false, Bool.not_eq_true, Bool.or_false, Bool.or_true, Bool.and_true, Bool.and_false] at h ⊢
          rcases hsb with rfl | rfl <;> rcases hse with rfl | rfl <;> simp only [wSeq, wIfS, wRet, wRetN, wNext, wBreak, wCont, wNever, wSet, wAsg, wPar, wExpr, wFor, wApp, wPop, wSetIx, wVar, wBor, wTake, wC, wBin, wNil, wCons, wPrim, wCall, wTup, wLst, wSl, wNone, wSome, wM0, wM1, wB, wAndT, wOrT, wNotT, wAndV, wOrV, wNotV, wIf, wIsi, wIsi2, wNeg, wChain, wSortedSet, X_txl, X_txt, wIt, wIt.rdf, wRng1, wRng2, wLc, wYes, lcS, wipeG, backG, noMut, rd_d, rd_o, rd_b, rdf_d, rdf_o, fz_d, fz_o, fz_b, sl_d, sl_o, ok_d, ok_o, argSl_d, argSl_o, argSl_b, items_l, items_t, items_s, rds, rdF, stOk_eq, ncO_some, nc_v, nc_own, nc_no, stOks, setAll, wG, mutAt, putAt, Sl.mu, Sl.put, argSls, noB, fewB, putB, endP, cellsOf, cellF, List.getElem?_cons_zero, List.getElem?_cons_succ, List.getElem?_nil, List.set_cons_zero, List.set_cons_succ, List.append_eq, List.nil_append, List.cons_append, List.replicate, List.take_succ_cons, List.take_zero, List.take_nil, List.filterMap_cons, List.filterMap_nil, Option.map_some, Option.map_none, List.length_cons, List.length_nil, F_add_i, F_add_s, F_add_l, F_add_t, F_int, F_cmp_i, F_cmp_s, F_in_l, F_in_t, F_in_s, F_ix_l, F_ix_t, F_ix_s, F_sl_l, F_sl_t, F_sl_s, F_len_l, F_len_t, F_len_s, F_toInt, F_toStr, F_toTup_l, F_toTup_t, F_toLst_l, F_toLst_t, F_all, F_any, F_split, F_join_l, F_join_t, F_part, F_start, F_end, F_strip, F_sorted_l, F_sorted_t, N_none, N_str, N_int, N_bool, N_tup, N_lst, S_str, S_none, S_int, S_bool, S_tup, S_lst, I_str, I_none, I_int, I_bool, I_tup, I_lst, B_str, B_none, B_int, B_bool, B_tup, B_lst, T_str, T_none, T_int, T_bool, T_tup, T_lst, L_str, L_none, L_int, L_bool, L_tup, L_lst, D_str, D_none, D_int, D_bool, D_tup, D_lst, N_dic, S_dic, I_dic, B_dic, T_dic, L_dic, D_dic, E_ss, E_ii, E_bb, E_ns, E_is, E_bs, E_nn, isA_str, isA_int, isA_bool, isA_tuple, isA_list, isA_dict, fEq, fNe, fIsN, fNotN, eqv_str, eqv_int, eqv_bool, exists_eq_left', exists_eq_left, exists_and_left, R.d.injEq, R.o.injEq, PyData.bool.injEq, PyData.str.injEq, PyData.int.injEq, PyData.tuple.injEq, PyData.list.injEq, List.cons.injEq, Option.some.injEq, and_true, true_and, and_self, Bool.not_true, Bool.not_false, Bool.false_eq_true, Bool.true_eq_false, Bool.true_and, Bool.false_and, Bool.true_or, Bool.false_or, if_true, if_false, reduceIte, reduceCtorEq, not_false_eq_true, ne_eq, true_or, or_true, false_or, or_false, List.map_nil, List.map_cons, Option.toList_some, Option.toList_none, false_and, and_false, Bool.not_eq_true, Bool.or_false, Bool.or_true, Bool.and_true, Bool.and_false, lz0] <;> (cases hz : ((txs sb).length == 0) <;> simpa only [hz, exists_eq_left', exists_eq_left, exists_and_left, R.d.injEq, R.o.injEq, PyData.bool.injEq, PyData.str.injEq, PyData.int.injEq, PyData.tuple.injEq, PyData.list.injEq, List.cons.injEq, Option.some.injEq, and_true, true_and, and_self, Bool.not_true, Bool.not_false, Bool.false_eq_true, Bool.true_eq_false, Bool.true_and, Bool.false_and, Bool.true_or, Bool.false_or, if_true, if_false, reduceIte, reduceCtorEq, not_false_eq_true, ne_eq, true_or, or_true, false_or, or_false, List.map_nil, List.map_cons, Option.toList_some, Option.toList_none, false_and, and_false, Bool.not_eq_true, Bool.or_false, Bool.or_true, Bool.and_true, Bool.and_false] using h)
        | false =>
          simp only [hn, w_is_meaning_row_1, fs_are_items, wSeq, wIfS, wRet, wRetN, wNext, wBreak, wCont, wNever, wSet, wAsg, wPar, wExpr, wFor, wApp, wPop, wSetIx, wVar, wBor, wTake, wC, wBin, wNil, wCons, wPrim, wCall, wTup, wLst, wSl, wNone, wSome, wM0, wM1, wB, wAndT, wOrT, wNotT, wAndV, wOrV, wNotV, wIf, wIsi, wIsi2, wNeg, wChain, wSortedSet, X_txl, X_txt, wIt, wIt.rdf, wRng1, wRng2, wLc, wYes, lcS, wipeG, backG, noMut, rd_d, rd_o, rd_b, rdf_d, rdf_o, fz_d, fz_o, fz_b, sl_d, sl_o, ok_d, ok_o, argSl_d, argSl_o, argSl_b, items_l, items_t, items_s, rds, rdF, stOk_eq, ncO_some, nc_v, nc_own, nc_no, stOks, setAll, wG, mutAt, putAt, Sl.mu, Sl.put, argSls, noB, fewB, putB, endP, cellsOf, cellF, List.getElem?_cons_zero, List.getElem?_cons_succ, List.getElem?_nil, List.set_cons_zero, List.set_cons_succ, List.append_eq, List.nil_append, List.cons_append, List.replicate, List.take_succ_cons, List.take_zero, List.take_nil, List.filterMap_cons, List.filterMap_nil, Option.map_some, Option.map_none, List.length_cons, List.length_nil, F_add_i, F_add_s, F_add_l, F_add_t, F_int, F_cmp_i, F_cmp_s, F_in_l, F_in_t, F_in_s, F_ix_l, F_ix_t, F_ix_s, F_sl_l, F_sl_t, F_sl_s, F_len_l, F_len_t, F_len_s, F_toInt, F_toStr, F_toTup_l, F_toTup_t, F_toLst_l, F_toLst_t, F_all, F_any, F_split, F_join_l, F_join_t, F_part, F_start, F_end, F_strip, F_sorted_l, F_sorted_t, N_none, N_str, N_int, N_bool, N_tup, N_lst, S_str, S_none, S_int, S_bool, S_tup, S_lst, I_str, I_none, I_int, I_bool, I_tup, I_lst, B_str, B_none, B_int, B_bool, B_tup, B_lst, T_str, T_none, T_int, T_bool, T_tup, T_lst, L_str, L_none, L_int, L_bool, L_tup, L_lst, D_str, D_none, D_int, D_bool, D_tup, D_lst, N_dic, S_dic, I_dic, B_dic, T_dic, L_dic, D_dic, E_ss, E_ii, E_bb, E_ns, E_is, E_bs, E_nn, isA_str, isA_int, isA_bool, isA_tuple, isA_list, isA_dict, fEq, fNe, fIsN, fNotN, eqv_str, eqv_int, eqv_bool, exists_eq_left', exists_eq_left, exists_and_left, R.d.injEq, R.o.injEq, PyData.bool.injEq, PyData.str.injEq, PyData.int.injEq, PyData.tuple.injEq, PyData.list.injEq, List.cons.injEq, Option.some.injEq, and_true, true_and, and_self, Bool.not_true, Bool.not_false, Bool.false_eq_true, Bool.true_eq_false, Bool.true_and, Bool.false_and, Bool.true_or, Bool.false_or, if_true, if_false, reduceIte, reduceCtorEq, not_false_eq_true, ne_eq, true_or, or_true, false_or, or_false, List.map_nil, List.map_cons, Option.toList_some, Option.toList_none, false_and, and_false, Bool.not_eq_true, Bool.or_false, Bool.or_true, Bool.and_true, Bool.and_false] at h ⊢
          exact ⟨g, rfl, og.1, h⟩
theorem m_is_meaning_row : ∀ as Q X, fs_is_meaning_row as Q X → w_is_meaning_row (as ++ List.replicate 7 Sl.no) (endP 1 Q X) := by
  rintro as Q X ⟨d, rfl, ok, h⟩
  have other : ∀ l : List PyData, l.length ≠ 3 → l.length ≠ 6 → (d = .list l ∨ d = .tuple l) → w_is_meaning_row ([.v d] ++ List.replicate 7 Sl.no) (endP 1 Q X) := fun l h3 h6 hd => by
    have hf : isRow d = false := by
      have : isRowL l = false := by
        unfold isRowL
        split
        · exact absurd rfl h3
        · exact absurd rfl h6
        · rfl
      rcases hd with rfl | rfl <;> exact this
    rw [hf] at h
    simp only [w_is_meaning_row, fs_is_sequence, wSeq, wIfS, wRet, wRetN, wNext, wBreak, wCont, wNever, wSet, wAsg, wPar, wExpr, wFor, wApp, wPop, wSetIx, wVar, wBor, wTake, wC, wBin, wNil, wCons, wPrim, wCall, wTup, wLst, wSl, wNone, wSome, wM0, wM1, wB, wAndT, wOrT, wNotT, wAndV, wOrV, wNotV, wIf, wIsi, wIsi2, wNeg, wChain, wSortedSet, X_txl, X_txt, wIt, wIt.rdf, wRng1, wRng2, wLc, wYes, lcS, wipeG, backG, noMut, rd_d, rd_o, rd_b, rdf_d, rdf_o, fz_d, fz_o, fz_b, sl_d, sl_o, ok_d, ok_o, argSl_d, argSl_o, argSl_b, items_l, items_t, items_s, rds, rdF, stOk_eq, ncO_some, nc_v, nc_own, nc_no, stOks, setAll, wG, mutAt, putAt, Sl.mu, Sl.put, argSls, noB, fewB, putB, endP, cellsOf, cellF, List.getElem?_cons_zero, List.getElem?_cons_succ, List.getElem?_nil, List.set_cons_zero, List.set_cons_succ, List.append_eq, List.nil_append, List.cons_append, List.replicate, List.take_succ_cons, List.take_zero, List.take_nil, List.filterMap_cons, List.filterMap_nil, Option.map_some, Option.map_none, List.length_cons, List.length_nil, F_add_i, F_add_s, F_add_l, F_add_t, F_int, F_cmp_i, F_cmp_s, F_in_l, F_in_t, F_in_s, F_ix_l, F_ix_t, F_ix_s, F_sl_l, F_sl_t, F_sl_s, F_len_l, F_len_t, F_len_s, F_toInt, F_toStr, F_toTup_l, F_toTup_t, F_toLst_l, F_toLst_t, F_all, F_any, F_split, F_join_l, F_join_t, F_part, F_start, F_end, F_strip, F_sorted_l, F_sorted_t, N_none, N_str, N_int, N_bool, N_tup, N_lst, S_str, S_none, S_int, S_bool, S_tup, S_lst, I_str, I_none, I_int, I_bool, I_tup, I_lst, B_str, B_none, B_int, B_bool, B_tup, B_lst, T_str, T_none, T_int, T_bool, T_tup, T_lst, L_str, L_none, L_int, L_bool, L_tup, L_lst, D_str, D_none, D_int, D_bool, D_tup, D_lst, N_dic, S_dic, I_dic, B_dic, T_dic, L_dic, D_dic, E_ss, E_ii, E_bb, E_ns, E_is, E_bs, E_nn, isA_str, isA_int, isA_bool, isA_tuple, isA_list, isA_dict, fEq, fNe, fIsN, fNotN, eqv_str, eqv_int, eqv_bool, exists_eq_left', exists_eq_left, exists_and_left, R.d.injEq, R.o.injEq, PyData.bool.injEq, PyData.str.injEq, PyData.int.injEq, PyData.tuple.injEq, PyData.list.injEq, List.cons.injEq, Option.some.injEq, and_true, true_and, and_self, Bool.not_true, Bool.not_false, Bool.false_eq_true, Bool.true_eq_false, Bool.true_and, Bool.false_and, Bool.true_or, Bool.false_or, if_true, if_false, reduceIte, reduceCtorEq, not_false_eq_true, ne_eq, true_or, or_true, false_or, or_false, List.map_nil, List.map_cons, Option.toList_some, Option.toList_none, false_and, and_false, Bool.not_eq_true, Bool.or_false, Bool.or_true, Bool.and_true, Bool.and_false]
    refine ⟨_, rfl, ?_⟩
    rcases hd with rfl | rfl <;> simp only [isSeq, wSeq, wIfS, wRet, wRetN, wNext, wBreak, wCont, wNever, wSet, wAsg, wPar, wExpr, wFor, wApp, wPop, wSetIx, wVar, wBor, wTake, wC, wBin, wNil, wCons, wPrim, wCall, wTup, wLst, wSl, wNone, wSome, wM0, wM1, wB, wAndT, wOrT, wNotT, wAndV, wOrV, wNotV, wIf, wIsi, wIsi2, wNeg, wChain, wSortedSet, X_txl, X_txt, wIt, wIt.rdf, wRng1, wRng2, wLc, wYes, lcS, wipeG, backG, noMut, rd_d, rd_o, rd_b, rdf_d, rdf_o, fz_d, fz_o, fz_b, sl_d, sl_o, ok_d, ok_o, argSl_d, argSl_o, argSl_b, items_l, items_t, items_s, rds, rdF, stOk_eq, ncO_some, nc_v, nc_own, nc_no, stOks, setAll, wG, mutAt, putAt, Sl.mu, Sl.put, argSls, noB, fewB, putB, endP, cellsOf, cellF, List.getElem?_cons_zero, List.getElem?_cons_succ, List.getElem?_nil, List.set_cons_zero, List.set_cons_succ, List.append_eq, List.nil_append, List.cons_append, List.replicate, List.take_succ_cons, List.take_zero, List.take_nil, List.filterMap_cons, List.filterMap_nil, Option.map_some, Option.map_none, List.length_cons, List.length_nil, F_add_i, F_add_s, F_add_l, F_add_t, F_int, F_cmp_i, F_cmp_s, F_in_l, F_in_t, F_in_s, F_ix_l, F_ix_t, F_ix_s, F_sl_l, F_sl_t, F_sl_s, F_len_l, F_len_t, F_len_s, F_toInt, F_toStr, F_toTup_l, F_toTup_t, F_toLst_l, F_toLst_t, F_all, F_any, F_split, F_join_l, F_join_t, F_part, F_start, F_end, F_strip, F_sorted_l, F_sorted_t, N_none, N_str, N_int, N_bool, N_tup, N_lst, S_str, S_none, S_int, S_bool, S_tup, S_lst, I_str, I_none, I_int, I_bool, I_tup, I_lst, B_str, B_none, B_int, B_bool, B_tup, B_lst, T_str, T_none, T_int, T_bool, T_tup, T_lst, L_str, L_none, L_int, L_bool, L_tup, L_lst, D_str, D_none, D_int, D_bool, D_tup, D_lst, N_dic, S_dic, I_dic, B_dic, T_dic, L_dic, D_dic, E_ss, E_ii, E_bb, E_ns, E_is, E_bs, E_nn, isA_str, isA_int, isA_bool, isA_tuple, isA_list, isA_dict, fEq, fNe, fIsN, fNotN, eqv_str, eqv_int, eqv_bool, exists_eq_left', exists_eq_left, exists_and_left, R.d.injEq, R.o.injEq, PyData.bool.injEq, PyData.str.injEq, PyData.int.injEq, PyData.tuple.injEq, PyData.list.injEq, List.cons.injEq, Option.some.injEq, and_true, true_and, and_self, Bool.not_true, Bool.not_false, Bool.false_eq_true, Bool.true_eq_false, Bool.true_and, Bool.false_and, Bool.true_or, Bool.false_or, if_true, if_false, reduceIte, reduceCtorEq, not_false_eq_true, ne_eq, true_or, or_true, false_or, or_false, List.map_nil, List.map_cons, Option.toList_some, Option.toList_none, false_and, and_false, Bool.not_eq_true, Bool.or_false, Bool.or_true, Bool.and_true, Bool.and_false, all36, inD36 _ h3 h6] <;> exact ⟨by decide, rfl, h⟩
  have byl : ∀ l : List PyData, (d = .list l ∨ d = .tuple l) → w_is_meaning_row ([.v d] ++ List.replicate 7 Sl.no) (endP 1 Q X) := fun l hd => by
    have e1 : isRow d = isRowL l := by rcases hd with rfl | rfl <;> rfl
    rw [e1] at h
    match l, hd, h, other l with
    | [a, b, c], hd, h, _ => exact m_row3 d a b c hd ok Q X h
    | [a, b, c, e, g, x], hd, h, _ => exact m_row6 d a b c e g x hd ok Q X h
    | [], hd, _, o => exact o (by decide) (by decide) hd
    | [_], hd, _, o => exact o (by simp) (by simp) hd
    | [_, _], hd, _, o => exact o (by simp) (by simp) hd
    | [_, _, _, _], hd, _, o => exact o (by simp) (by simp) hd
    | [_, _, _, _, _], hd, _, o => exact o (by simp) (by simp) hd
    | _ :: _ :: _ :: _ :: _ :: _ :: _ :: _, hd, _, o => exact o (by simp) (by simp) hd
  cases d with
  | list l => exact byl l (.inl rfl)
  | tuple l => exact byl l (.inr rfl)
  | _ =>
    simp only [w_is_meaning_row, fs_is_sequence, wSeq, wIfS, wRet, wRetN, wNext, wBreak, wCont, wNever, wSet, wAsg, wPar, wExpr, wFor, wApp, wPop, wSetIx, wVar, wBor, wTake, wC, wBin, wNil, wCons, wPrim, wCall, wTup, wLst, wSl, wNone, wSome, wM0, wM1, wB, wAndT, wOrT, wNotT, wAndV, wOrV, wNotV, wIf, wIsi, wIsi2, wNeg, wChain, wSortedSet, X_txl, X_txt, wIt, wIt.rdf, wRng1, wRng2, wLc, wYes, lcS, wipeG, backG, noMut, rd_d, rd_o, rd_b, rdf_d, rdf_o, fz_d, fz_o, fz_b, sl_d, sl_o, ok_d, ok_o, argSl_d, argSl_o, argSl_b, items_l, items_t, items_s, rds, rdF, stOk_eq, ncO_some, nc_v, nc_own, nc_no, stOks, setAll, wG, mutAt, putAt, Sl.mu, Sl.put, argSls, noB, fewB, putB, endP, cellsOf, cellF, List.getElem?_cons_zero, List.getElem?_cons_succ, List.getElem?_nil, List.set_cons_zero, List.set_cons_succ, List.append_eq, List.nil_append, List.cons_append, List.replicate, List.take_succ_cons, List.take_zero, List.take_nil, List.filterMap_cons, List.filterMap_nil, Option.map_some, Option.map_none, List.length_cons, List.length_nil, F_add_i, F_add_s, F_add_l, F_add_t, F_int, F_cmp_i, F_cmp_s, F_in_l, F_in_t, F_in_s, F_ix_l, F_ix_t, F_ix_s, F_sl_l, F_sl_t, F_sl_s, F_len_l, F_len_t, F_len_s, F_toInt, F_toStr, F_toTup_l, F_toTup_t, F_toLst_l, F_toLst_t, F_all, F_any, F_split, F_join_l, F_join_t, F_part, F_start, F_end, F_strip, F_sorted_l, F_sorted_t, N_none, N_str, N_int, N_bool, N_tup, N_lst, S_str, S_none, S_int, S_bool, S_tup, S_lst, I_str, I_none, I_int, I_bool, I_tup, I_lst, B_str, B_none, B_int, B_bool, B_tup, B_lst, T_str, T_none, T_int, T_bool, T_tup, T_lst, L_str, L_none, L_int, L_bool, L_tup, L_lst, D_str, D_none, D_int, D_bool, D_tup, D_lst, N_dic, S_dic, I_dic, B_dic, T_dic, L_dic, D_dic, E_ss, E_ii, E_bb, E_ns, E_is, E_bs, E_nn, isA_str, isA_int, isA_bool, isA_tuple, isA_list, isA_dict, fEq, fNe, fIsN, fNotN, eqv_str, eqv_int, eqv_bool, exists_eq_left', exists_eq_left, exists_and_left, R.d.injEq, R.o.injEq, PyData.bool.injEq, PyData.str.injEq, PyData.int.injEq, PyData.tuple.injEq, PyData.list.injEq, List.cons.injEq, Option.some.injEq, and_true, true_and, and_self, Bool.not_true, Bool.not_false, Bool.false_eq_true, Bool.true_eq_false, Bool.true_and, Bool.false_and, Bool.true_or, Bool.false_or, if_true, if_false, reduceIte, reduceCtorEq, not_false_eq_true, ne_eq, true_or, or_true, false_or, or_false, List.map_nil, List.map_cons, Option.toList_some, Option.toList_none, false_and, and_false, Bool.not_eq_true, Bool.or_false, Bool.or_true, Bool.and_true, Bool.and_false]
    refine ⟨_, rfl, ?_⟩
    simp only [isSeq, exists_eq_left', exists_eq_left, exists_and_left, R.d.injEq, R.o.injEq, PyData.bool.injEq, PyData.str.injEq, PyData.int.injEq, PyData.tuple.injEq, PyData.list.injEq, List.cons.injEq, Option.some.injEq, and_true, true_and, and_self, Bool.not_true, Bool.not_false, Bool.false_eq_true, Bool.true_eq_false, Bool.true_and, Bool.false_and, Bool.true_or, Bool.false_or, if_true, if_false, reduceIte, reduceCtorEq, not_false_eq_true, ne_eq, true_or, or_true, false_or, or_false, List.map_nil, List.map_cons, Option.toList_some, Option.toList_none, false_and, and_false, Bool.not_eq_true, Bool.or_false, Bool.or_true, Bool.and_true, Bool.and_false]
    exact h

def w_left_of : WS := (wRet (wPrim fToTup (wCons (wLc (wIt (wVar 0)) (.n 2) (wB (wBin (fIn true) (wBor 2) (wBor 1))) (wVar 2) [2]) wNil)))

def fs_left_of : FS := fun as Q _ => ∃ xs gs : List Str, as = [.v (.tuple (txs xs)), .v (.tuple (txs gs))] ∧ xs.length ≤ 1000000 ∧ Q (.d (.tuple (txs (kept xs gs)))) []
theorem l_left_of : ∀ as Q X, fs_left_of as Q X → as.length = 2 := by rintro as Q X ⟨_, _, rfl, _⟩; rfl
theorem m_left_of : ∀ as Q X, fs_left_of as Q X → w_left_of (as ++ List.replicate 1 Sl.no) (endP 2 Q X) := by
  rintro as Q X ⟨xs, gs, rfl, hz, h⟩
  simp only [w_left_of, wSeq, wIfS, wRet, wRetN, wNext, wBreak, wCont, wNever, wSet, wAsg, wPar, wExpr, wFor, wApp, wPop, wSetIx, wVar, wBor, wTake, wC, wBin, wNil, wCons, wPrim, wCall, wTup, wLst, wSl, wNone, wSome, wM0, wM1, wB, wAndT, wOrT, wNotT, wAndV, wOrV, wNotV, wIf, wIsi, wIsi2, wNeg, wChain, wSortedSet, X_txl, X_txt, wIt, wIt.rdf, wRng1, wRng2, wLc, wYes, lcS, wipeG, backG, noMut, rd_d, rd_o, rd_b, rdf_d, rdf_o, fz_d, fz_o, fz_b, sl_d, sl_o, ok_d, ok_o, argSl_d, argSl_o, argSl_b, items_l, items_t, items_s, rds, rdF, stOk_eq, ncO_some, nc_v, nc_own, nc_no, stOks, setAll, wG, mutAt, putAt, Sl.mu, Sl.put, argSls, noB, fewB, putB, endP, cellsOf, cellF, List.getElem?_cons_zero, List.getElem?_cons_succ, List.getElem?_nil, List.set_cons_zero, List.set_cons_succ, List.append_eq, List.nil_append, List.cons_append, List.replicate, List.take_succ_cons, List.take_zero, List.take_nil, List.filterMap_cons, List.filterMap_nil, Option.map_some, Option.map_none, List.length_cons, List.length_nil, F_add_i, F_add_s, F_add_l, F_add_t, F_int, F_cmp_i, F_cmp_s, F_in_l, F_in_t, F_in_s, F_ix_l, F_ix_t, F_ix_s, F_sl_l, F_sl_t, F_sl_s, F_len_l, F_len_t, F_len_s, F_toInt, F_toStr, F_toTup_l, F_toTup_t, F_toLst_l, F_toLst_t, F_all, F_any, F_split, F_join_l, F_join_t, F_part, F_start, F_end, F_strip, F_sorted_l, F_sorted_t, N_none, N_str, N_int, N_bool, N_tup, N_lst, S_str, S_none, S_int, S_bool, S_tup, S_lst, I_str, I_none, I_int, I_bool, I_tup, I_lst, B_str, B_none, B_int, B_bool, B_tup, B_lst, T_str, T_none, T_int, T_bool, T_tup, T_lst, L_str, L_none, L_int, L_bool, L_tup, L_lst, D_str, D_none, D_int, D_bool, D_tup, D_lst, N_dic, S_dic, I_dic, B_dic, T_dic, L_dic, D_dic, E_ss, E_ii, E_bb, E_ns, E_is, E_bs, E_nn, isA_str, isA_int, isA_bool, isA_tuple, isA_list, isA_dict, fEq, fNe, fIsN, fNotN, eqv_str, eqv_int, eqv_bool, exists_eq_left', exists_eq_left, exists_and_left, R.d.injEq, R.o.injEq, PyData.bool.injEq, PyData.str.injEq, PyData.int.injEq, PyData.tuple.injEq, PyData.list.injEq, List.cons.injEq, Option.some.injEq, and_true, true_and, and_self, Bool.not_true, Bool.not_false, Bool.false_eq_true, Bool.true_eq_false, Bool.true_and, Bool.false_and, Bool.true_or, Bool.false_or, if_true, if_false, reduceIte, reduceCtorEq, not_false_eq_true, ne_eq, true_or, or_true, false_or, or_false, List.map_nil, List.map_cons, Option.toList_some, Option.toList_none, false_and, and_false, Bool.not_eq_true, Bool.or_false, Bool.or_true, Bool.and_true, Bool.and_false]
  refine ⟨lz (by simpa using hz), lcI_fmE xs PyData.str (fun s => if s ∉ gs then some (.str s) else none) rfl (fun s hs Kn kn => ?_) ?_⟩
  · simp only [wSeq, wIfS, wRet, wRetN, wNext, wBreak, wCont, wNever, wSet, wAsg, wPar, wExpr, wFor, wApp, wPop, wSetIx, wVar, wBor, wTake, wC, wBin, wNil, wCons, wPrim, wCall, wTup, wLst, wSl, wNone, wSome, wM0, wM1, wB, wAndT, wOrT, wNotT, wAndV, wOrV, wNotV, wIf, wIsi, wIsi2, wNeg, wChain, wSortedSet, X_txl, X_txt, wIt, wIt.rdf, wRng1, wRng2, wLc, wYes, lcS, wipeG, backG, noMut, rd_d, rd_o, rd_b, rdf_d, rdf_o, fz_d, fz_o, fz_b, sl_d, sl_o, ok_d, ok_o, argSl_d, argSl_o, argSl_b, items_l, items_t, items_s, rds, rdF, stOk_eq, ncO_some, nc_v, nc_own, nc_no, stOks, setAll, wG, mutAt, putAt, Sl.mu, Sl.put, argSls, noB, fewB, putB, endP, cellsOf, cellF, List.getElem?_cons_zero, List.getElem?_cons_succ, List.getElem?_nil, List.set_cons_zero, List.set_cons_succ, List.append_eq, List.nil_append, List.cons_append, List.replicate, List.take_succ_cons, List.take_zero, List.take_nil, List.filterMap_cons, List.filterMap_nil, Option.map_some, Option.map_none, List.length_cons, List.length_nil, F_add_i, F_add_s, F_add_l, F_add_t, F_int, F_cmp_i, F_cmp_s, F_in_l, F_in_t, F_in_s, F_ix_l, F_ix_t, F_ix_s, F_sl_l, F_sl_t, F_sl_s, F_len_l, F_len_t, F_len_s, F_toInt, F_toStr, F_toTup_l, F_toTup_t, F_toLst_l, F_toLst_t, F_all, F_any, F_split, F_join_l, F_join_t, F_part, F_start, F_end, F_strip, F_sorted_l, F_sorted_t, N_none, N_str, N_int, N_bool, N_tup, N_lst, S_str, S_none, S_int, S_bool, S_tup, S_lst, I_str, I_none, I_int, I_bool, I_tup, I_lst, B_str, B_none, B_int, B_bool, B_tup, B_lst, T_str, T_none, T_int, T_bool, T_tup, T_lst, L_str, L_none, L_int, L_bool, L_tup, L_lst, D_str, D_none, D_int, D_bool, D_tup, D_lst, N_dic, S_dic, I_dic, B_dic, T_dic, L_dic, D_dic, E_ss, E_ii, E_bb, E_ns, E_is, E_bs, E_nn, isA_str, isA_int, isA_bool, isA_tuple, isA_list, isA_dict, fEq, fNe, fIsN, fNotN, eqv_str, eqv_int, eqv_bool, exists_eq_left', exists_eq_left, exists_and_left, R.d.injEq, R.o.injEq, PyData.bool.injEq, PyData.str.injEq, PyData.int.injEq, PyData.tuple.injEq, PyData.list.injEq, List.cons.injEq, Option.some.injEq, and_true, true_and, and_self, Bool.not_true, Bool.not_false, Bool.false_eq_true, Bool.true_eq_false, Bool.true_and, Bool.false_and, Bool.true_or, Bool.false_or, if_true, if_false, reduceIte, reduceCtorEq, not_false_eq_true, ne_eq, true_or, or_true, false_or, or_false, List.map_nil, List.map_cons, Option.toList_some, Option.toList_none, false_and, and_false, Bool.not_eq_true, Bool.or_false, Bool.or_true, Bool.and_true, Bool.and_false, flat_str, flat_strs, inD_strs]
    by_cases hg : s ∈ gs
    · simpa [hg] using kn
    · simpa [hg] using kn
  · simp only [wSeq, wIfS, wRet, wRetN, wNext, wBreak, wCont, wNever, wSet, wAsg, wPar, wExpr, wFor, wApp, wPop, wSetIx, wVar, wBor, wTake, wC, wBin, wNil, wCons, wPrim, wCall, wTup, wLst, wSl, wNone, wSome, wM0, wM1, wB, wAndT, wOrT, wNotT, wAndV, wOrV, wNotV, wIf, wIsi, wIsi2, wNeg, wChain, wSortedSet, X_txl, X_txt, wIt, wIt.rdf, wRng1, wRng2, wLc, wYes, lcS, wipeG, backG, noMut, rd_d, rd_o, rd_b, rdf_d, rdf_o, fz_d, fz_o, fz_b, sl_d, sl_o, ok_d, ok_o, argSl_d, argSl_o, argSl_b, items_l, items_t, items_s, rds, rdF, stOk_eq, ncO_some, nc_v, nc_own, nc_no, stOks, setAll, wG, mutAt, putAt, Sl.mu, Sl.put, argSls, noB, fewB, putB, endP, cellsOf, cellF, List.getElem?_cons_zero, List.getElem?_cons_succ, List.getElem?_nil, List.set_cons_zero, List.set_cons_succ, List.append_eq, List.nil_append, List.cons_append, List.replicate, List.take_succ_cons, List.take_zero, List.take_nil, List.filterMap_cons, List.filterMap_nil, Option.map_some, Option.map_none, List.length_cons, List.length_nil, F_add_i, F_add_s, F_add_l, F_add_t, F_int, F_cmp_i, F_cmp_s, F_in_l, F_in_t, F_in_s, F_ix_l, F_ix_t, F_ix_s, F_sl_l, F_sl_t, F_sl_s, F_len_l, F_len_t, F_len_s, F_toInt, F_toStr, F_toTup_l, F_toTup_t, F_toLst_l, F_toLst_t, F_all, F_any, F_split, F_join_l, F_join_t, F_part, F_start, F_end, F_strip, F_sorted_l, F_sorted_t, N_none, N_str, N_int, N_bool, N_tup, N_lst, S_str, S_none, S_int, S_bool, S_tup, S_lst, I_str, I_none, I_int, I_bool, I_tup, I_lst, B_str, B_none, B_int, B_bool, B_tup, B_lst, T_str, T_none, T_int, T_bool, T_tup, T_lst, L_str, L_none, L_int, L_bool, L_tup, L_lst, D_str, D_none, D_int, D_bool, D_tup, D_lst, N_dic, S_dic, I_dic, B_dic, T_dic, L_dic, D_dic, E_ss, E_ii, E_bb, E_ns, E_is, E_bs, E_nn, isA_str, isA_int, isA_bool, isA_tuple, isA_list, isA_dict, fEq, fNe, fIsN, fNotN, eqv_str, eqv_int, eqv_bool, exists_eq_left', exists_eq_left, exists_and_left, R.d.injEq, R.o.injEq, PyData.bool.injEq, PyData.str.injEq, PyData.int.injEq, PyData.tuple.injEq, PyData.list.injEq, List.cons.injEq, Option.some.injEq, and_true, true_and, and_self, Bool.not_true, Bool.not_false, Bool.false_eq_true, Bool.true_eq_false, Bool.true_and, Bool.false_and, Bool.true_or, Bool.false_or, if_true, if_false, reduceIte, reduceCtorEq, not_false_eq_true, ne_eq, true_or, or_true, false_or, or_false, List.map_nil, List.map_cons, Option.toList_some, Option.toList_none, false_and, and_false, Bool.not_eq_true, Bool.or_false, Bool.or_true, Bool.and_true, Bool.and_false]
    have e : (xs.filterMap fun s => if s ∉ gs then some (PyData.str s) else none) = txs (kept xs gs) := by
      unfold txs kept
      clear h
      induction xs with
      | nil => rfl
      | cons x xs ih =>
        have ih := ih (by simp at hz; omega)
        by_cases hg : x ∈ gs
        · simp [hg] at ih ⊢; exact ih
        · simp [hg] at ih ⊢; exact ih
    rw [e]
    exact h

def w_value_behind_1 : WS := (wRet (wBin fAdd (wBin fAdd (wBor 3) (wBor 6)) (wBor 5)))
def w_value_behind_2 : WS := (wSeq (wIfS (wB (wBin fIsN (wBor 6) (wC PyData.none))) (wRet (wC PyData.none)) wNext) w_value_behind_1)
def w_value_behind_3 : WS := (wSeq (wIfS (wB (wBin fNotN (wBor 1) (wC PyData.none))) (wRet (wBin fAdd (wBin fAdd (wBor 3) (wCall (fs_left_of) (wCons (wVar 1) (wCons (wVar 4) wNil)))) (wBor 5))) wNext) w_value_behind_2)
def w_value_behind_4 : WS := (wSeq (wAsg (wVar 0) (.t [2, 3, 4, 5, 6, 2])) w_value_behind_3)
def w_value_behind : WS := (wSeq (wIfS (wB (wBin fEq (wBin fIx (wBor 0) (wC (PyData.int 0))) (wC (PyData.str "const")))) (wRet (wBin fIx (wBor 0) (wC (PyData.int 1)))) wNext) w_value_behind_4)

def Mng.vb (m : Mng) (v : Option (List Str)) : Option (List Str) := match m with
  | .c x _ => x
  | .a bf dr bh df _ => match v with
    | some l => some (bf ++ kept l dr ++ bh)
    | none => df.map fun d => bf ++ d ++ bh
def fs_value_behind : FS := fun as Q _ => ∃ (m : Mng) (v : Option (List Str)) (a : Nat), as = [.v m.d, .v (optT v)] ∧ m.Ok a ∧ a + (optL v).length ≤ 100000 ∧ Q (.d (optT (m.vb v))) []
theorem l_value_behind : ∀ as Q X, fs_value_behind as Q X → as.length = 2 := by rintro as Q X ⟨_, _, _, rfl, _⟩; rfl
theorem m_value_behind : ∀ as Q X, fs_value_behind as Q X → w_value_behind (as ++ List.replicate 5 Sl.no) (endP 2 Q X) := by
  rintro as Q X ⟨m, v, a, rfl, hm, hz, h⟩
  have hsz := hm.sz
  have i30 : ∀ x y z : PyData, atI [x, y, z] 0 = some x := fun _ _ _ => rfl
  have i31 : ∀ x y z : PyData, atI [x, y, z] 1 = some y := fun _ _ _ => rfl
  have i60 : ∀ x y z u v w : PyData, atI [x, y, z, u, v, w] 0 = some x := fun _ _ _ _ _ _ => rfl
  have zl : ∀ n : Nat, n ≤ 1000000 → n ≤ sizeLine := fun n hn => Nat.le_trans hn (by decide)
  have cne : (Str.ofString "around" == Str.ofString "const") = false := by decide +kernel
  cases m with
  | c x b =>
    simp only [w_value_behind, Mng.d, i30, i31, beq_self_eq_true, wSeq, wIfS, wRet, wRetN, wNext, wBreak, wCont, wNever, wSet, wAsg, wPar, wExpr, wFor, wApp, wPop, wSetIx, wVar, wBor, wTake, wC, wBin, wNil, wCons, wPrim, wCall, wTup, wLst, wSl, wNone, wSome, wM0, wM1, wB, wAndT, wOrT, wNotT, wAndV, wOrV, wNotV, wIf, wIsi, wIsi2, wNeg, wChain, wSortedSet, X_txl, X_txt, wIt, wIt.rdf, wRng1, wRng2, wLc, wYes, lcS, wipeG, backG, noMut, rd_d, rd_o, rd_b, rdf_d, rdf_o, fz_d, fz_o, fz_b, sl_d, sl_o, ok_d, ok_o, argSl_d, argSl_o, argSl_b, items_l, items_t, items_s, rds, rdF, stOk_eq, ncO_some, nc_v, nc_own, nc_no, stOks, setAll, wG, mutAt, putAt, Sl.mu, Sl.put, argSls, noB, fewB, putB, endP, cellsOf, cellF, List.getElem?_cons_zero, List.getElem?_cons_succ, List.getElem?_nil, List.set_cons_zero, List.set_cons_succ, List.append_eq, List.nil_append, List.cons_append, List.replicate, List.take_succ_cons, List.take_zero, List.take_nil, List.filterMap_cons, List.filterMap_nil, Option.map_some, Option.map_none, List.length_cons, List.length_nil, F_add_i, F_add_s, F_add_l, F_add_t, F_int, F_cmp_i, F_cmp_s, F_in_l, F_in_t, F_in_s, F_ix_l, F_ix_t, F_ix_s, F_sl_l, F_sl_t, F_sl_s, F_len_l, F_len_t, F_len_s, F_toInt, F_toStr, F_toTup_l, F_toTup_t, F_toLst_l, F_toLst_t, F_all, F_any, F_split, F_join_l, F_join_t, F_part, F_start, F_end, F_strip, F_sorted_l, F_sorted_t, N_none, N_str, N_int, N_bool, N_tup, N_lst, S_str, S_none, S_int, S_bool, S_tup, S_lst, I_str, I_none, I_int, I_bool, I_tup, I_lst, B_str, B_none, B_int, B_bool, B_tup, B_lst, T_str, T_none, T_int, T_bool, T_tup, T_lst, L_str, L_none, L_int, L_bool, L_tup, L_lst, D_str, D_none, D_int, D_bool, D_tup, D_lst, N_dic, S_dic, I_dic, B_dic, T_dic, L_dic, D_dic, E_ss, E_ii, E_bb, E_ns, E_is, E_bs, E_nn, isA_str, isA_int, isA_bool, isA_tuple, isA_list, isA_dict, fEq, fNe, fIsN, fNotN, eqv_str, eqv_int, eqv_bool, exists_eq_left', exists_eq_left, exists_and_left, R.d.injEq, R.o.injEq, PyData.bool.injEq, PyData.str.injEq, PyData.int.injEq, PyData.tuple.injEq, PyData.list.injEq, List.cons.injEq, Option.some.injEq, and_true, true_and, and_self, Bool.not_true, Bool.not_false, Bool.false_eq_true, Bool.true_eq_false, Bool.true_and, Bool.false_and, Bool.true_or, Bool.false_or, if_true, if_false, reduceIte, reduceCtorEq, not_false_eq_true, ne_eq, true_or, or_true, false_or, or_false, List.map_nil, List.map_cons, Option.toList_some, Option.toList_none, false_and, and_false, Bool.not_eq_true, Bool.or_false, Bool.or_true, Bool.and_true, Bool.and_false]
    exact h
  | a bf dr bh df b =>
    simp only [Mng.items, List.length_append] at hsz
    simp only [w_value_behind, Mng.d, i60, cne, wSeq, wIfS, wRet, wRetN, wNext, wBreak, wCont, wNever, wSet, wAsg, wPar, wExpr, wFor, wApp, wPop, wSetIx, wVar, wBor, wTake, wC, wBin, wNil, wCons, wPrim, wCall, wTup, wLst, wSl, wNone, wSome, wM0, wM1, wB, wAndT, wOrT, wNotT, wAndV, wOrV, wNotV, wIf, wIsi, wIsi2, wNeg, wChain, wSortedSet, X_txl, X_txt, wIt, wIt.rdf, wRng1, wRng2, wLc, wYes, lcS, wipeG, backG, noMut, rd_d, rd_o, rd_b, rdf_d, rdf_o, fz_d, fz_o, fz_b, sl_d, sl_o, ok_d, ok_o, argSl_d, argSl_o, argSl_b, items_l, items_t, items_s, rds, rdF, stOk_eq, ncO_some, nc_v, nc_own, nc_no, stOks, setAll, wG, mutAt, putAt, Sl.mu, Sl.put, argSls, noB, fewB, putB, endP, cellsOf, cellF, List.getElem?_cons_zero, List.getElem?_cons_succ, List.getElem?_nil, List.set_cons_zero, List.set_cons_succ, List.append_eq, List.nil_append, List.cons_append, List.replicate, List.take_succ_cons, List.take_zero, List.take_nil, List.filterMap_cons, List.filterMap_nil, Option.map_some, Option.map_none, List.length_cons, List.length_nil, F_add_i, F_add_s, F_add_l, F_add_t, F_int, F_cmp_i, F_cmp_s, F_in_l, F_in_t, F_in_s, F_ix_l, F_ix_t, F_ix_s, F_sl_l, F_sl_t, F_sl_s, F_len_l, F_len_t, F_len_s, F_toInt, F_toStr, F_toTup_l, F_toTup_t, F_toLst_l, F_toLst_t, F_all, F_any, F_split, F_join_l, F_join_t, F_part, F_start, F_end, F_strip, F_sorted_l, F_sorted_t, N_none, N_str, N_int, N_bool, N_tup, N_lst, S_str, S_none, S_int, S_bool, S_tup, S_lst, I_str, I_none, I_int, I_bool, I_tup, I_lst, B_str, B_none, B_int, B_bool, B_tup, B_lst, T_str, T_none, T_int, T_bool, T_tup, T_lst, L_str, L_none, L_int, L_bool, L_tup, L_lst, D_str, D_none, D_int, D_bool, D_tup, D_lst, N_dic, S_dic, I_dic, B_dic, T_dic, L_dic, D_dic, E_ss, E_ii, E_bb, E_ns, E_is, E_bs, E_nn, isA_str, isA_int, isA_bool, isA_tuple, isA_list, isA_dict, fEq, fNe, fIsN, fNotN, eqv_str, eqv_int, eqv_bool, exists_eq_left', exists_eq_left, exists_and_left, R.d.injEq, R.o.injEq, PyData.bool.injEq, PyData.str.injEq, PyData.int.injEq, PyData.tuple.injEq, PyData.list.injEq, List.cons.injEq, Option.some.injEq, and_true, true_and, and_self, Bool.not_true, Bool.not_false, Bool.false_eq_true, Bool.true_eq_false, Bool.true_and, Bool.false_and, Bool.true_or, Bool.false_or, if_true, if_false, reduceIte, reduceCtorEq, not_false_eq_true, ne_eq, true_or, or_true, false_or, or_false, List.map_nil, List.map_cons, Option.toList_some, Option.toList_none, false_and, and_false, Bool.not_eq_true, Bool.or_false, Bool.or_true, Bool.and_true, Bool.and_false]
    have lk := fun l => len_kept l dr
    cases v with
    | some l =>
      have lk := len_kept l dr
      simp only [optL] at hz
      simp only [w_value_behind_4, w_value_behind_3, optT, fs_left_of, wSeq, wIfS, wRet, wRetN, wNext, wBreak, wCont, wNever, wSet, wAsg, wPar, wExpr, wFor, wApp, wPop, wSetIx, wVar, wBor, wTake, wC, wBin, wNil, wCons, wPrim, wCall, wTup, wLst, wSl, wNone, wSome, wM0, wM1, wB, wAndT, wOrT, wNotT, wAndV, wOrV, wNotV, wIf, wIsi, wIsi2, wNeg, wChain, wSortedSet, X_txl, X_txt, wIt, wIt.rdf, wRng1, wRng2, wLc, wYes, lcS, wipeG, backG, noMut, rd_d, rd_o, rd_b, rdf_d, rdf_o, fz_d, fz_o, fz_b, sl_d, sl_o, ok_d, ok_o, argSl_d, argSl_o, argSl_b, items_l, items_t, items_s, rds, rdF, stOk_eq, ncO_some, nc_v, nc_own, nc_no, stOks, setAll, wG, mutAt, putAt, Sl.mu, Sl.put, argSls, noB, fewB, putB, endP, cellsOf, cellF, List.getElem?_cons_zero, List.getElem?_cons_succ, List.getElem?_nil, List.set_cons_zero, List.set_cons_succ, List.append_eq, List.nil_append, List.cons_append, List.replicate, List.take_succ_cons, List.take_zero, List.take_nil, List.filterMap_cons, List.filterMap_nil, Option.map_some, Option.map_none, List.length_cons, List.length_nil, F_add_i, F_add_s, F_add_l, F_add_t, F_int, F_cmp_i, F_cmp_s, F_in_l, F_in_t, F_in_s, F_ix_l, F_ix_t, F_ix_s, F_sl_l, F_sl_t, F_sl_s, F_len_l, F_len_t, F_len_s, F_toInt, F_toStr, F_toTup_l, F_toTup_t, F_toLst_l, F_toLst_t, F_all, F_any, F_split, F_join_l, F_join_t, F_part, F_start, F_end, F_strip, F_sorted_l, F_sorted_t, N_none, N_str, N_int, N_bool, N_tup, N_lst, S_str, S_none, S_int, S_bool, S_tup, S_lst, I_str, I_none, I_int, I_bool, I_tup, I_lst, B_str, B_none, B_int, B_bool, B_tup, B_lst, T_str, T_none, T_int, T_bool, T_tup, T_lst, L_str, L_none, L_int, L_bool, L_tup, L_lst, D_str, D_none, D_int, D_bool, D_tup, D_lst, N_dic, S_dic, I_dic, B_dic, T_dic, L_dic, D_dic, E_ss, E_ii, E_bb, E_ns, E_is, E_bs, E_nn, isA_str, isA_int, isA_bool, isA_tuple, isA_list, isA_dict, fEq, fNe, fIsN, fNotN, eqv_str, eqv_int, eqv_bool, exists_eq_left', exists_eq_left, exists_and_left, R.d.injEq, R.o.injEq, PyData.bool.injEq, PyData.str.injEq, PyData.int.injEq, PyData.tuple.injEq, PyData.list.injEq, List.cons.injEq, Option.some.injEq, and_true, true_and, and_self, Bool.not_true, Bool.not_false, Bool.false_eq_true, Bool.true_eq_false, Bool.true_and, Bool.false_and, Bool.true_or, Bool.false_or, if_true, if_false, reduceIte, reduceCtorEq, not_false_eq_true, ne_eq, true_or, or_true, false_or, or_false, List.map_nil, List.map_cons, Option.toList_some, Option.toList_none, false_and, and_false, Bool.not_eq_true, Bool.or_false, Bool.or_true, Bool.and_true, Bool.and_false]
      refine ⟨l, dr, ⟨rfl, rfl⟩, by omega, ?_⟩
      simp only [wSeq, wIfS, wRet, wRetN, wNext, wBreak, wCont, wNever, wSet, wAsg, wPar, wExpr, wFor, wApp, wPop, wSetIx, wVar, wBor, wTake, wC, wBin, wNil, wCons, wPrim, wCall, wTup, wLst, wSl, wNone, wSome, wM0, wM1, wB, wAndT, wOrT, wNotT, wAndV, wOrV, wNotV, wIf, wIsi, wIsi2, wNeg, wChain, wSortedSet, X_txl, X_txt, wIt, wIt.rdf, wRng1, wRng2, wLc, wYes, lcS, wipeG, backG, noMut, rd_d, rd_o, rd_b, rdf_d, rdf_o, fz_d, fz_o, fz_b, sl_d, sl_o, ok_d, ok_o, argSl_d, argSl_o, argSl_b, items_l, items_t, items_s, rds, rdF, stOk_eq, ncO_some, nc_v, nc_own, nc_no, stOks, setAll, wG, mutAt, putAt, Sl.mu, Sl.put, argSls, noB, fewB, putB, endP, cellsOf, cellF, List.getElem?_cons_zero, List.getElem?_cons_succ, List.getElem?_nil, List.set_cons_zero, List.set_cons_succ, List.append_eq, List.nil_append, List.cons_append, List.replicate, List.take_succ_cons, List.take_zero, List.take_nil, List.filterMap_cons, List.filterMap_nil, Option.map_some, Option.map_none, List.length_cons, List.length_nil, F_add_i, F_add_s, F_add_l, F_add_t, F_int, F_cmp_i, F_cmp_s, F_in_l, F_in_t, F_in_s, F_ix_l, F_ix_t, F_ix_s, F_sl_l, F_sl_t, F_sl_s, F_len_l, F_len_t, F_len_s, F_toInt, F_toStr, F_toTup_l, F_toTup_t, F_toLst_l, F_toLst_t, F_all, F_any, F_split, F_join_l, F_join_t, F_part, F_start, F_end, F_strip, F_sorted_l, F_sorted_t, N_none, N_str, N_int, N_bool, N_tup, N_lst, S_str, S_none, S_int, S_bool, S_tup, S_lst, I_str, I_none, I_int, I_bool, I_tup, I_lst, B_str, B_none, B_int, B_bool, B_tup, B_lst, T_str, T_none, T_int, T_bool, T_tup, T_lst, L_str, L_none, L_int, L_bool, L_tup, L_lst, D_str, D_none, D_int, D_bool, D_tup, D_lst, N_dic, S_dic, I_dic, B_dic, T_dic, L_dic, D_dic, E_ss, E_ii, E_bb, E_ns, E_is, E_bs, E_nn, isA_str, isA_int, isA_bool, isA_tuple, isA_list, isA_dict, fEq, fNe, fIsN, fNotN, eqv_str, eqv_int, eqv_bool, exists_eq_left', exists_eq_left, exists_and_left, R.d.injEq, R.o.injEq, PyData.bool.injEq, PyData.str.injEq, PyData.int.injEq, PyData.tuple.injEq, PyData.list.injEq, List.cons.injEq, Option.some.injEq, and_true, true_and, and_self, Bool.not_true, Bool.not_false, Bool.false_eq_true, Bool.true_eq_false, Bool.true_and, Bool.false_and, Bool.true_or, Bool.false_or, if_true, if_false, reduceIte, reduceCtorEq, not_false_eq_true, ne_eq, true_or, or_true, false_or, or_false, List.map_nil, List.map_cons, Option.toList_some, Option.toList_none, false_and, and_false, Bool.not_eq_true, Bool.or_false, Bool.or_true, Bool.and_true, Bool.and_false, List.length_map, List.length_append, txs, ← List.map_append]
      exact ⟨zl _ (by omega), zl _ (by omega), h⟩
    | none =>
      cases df with
      | none =>
        simp only [w_value_behind_4, w_value_behind_3, w_value_behind_2, optT, wSeq, wIfS, wRet, wRetN, wNext, wBreak, wCont, wNever, wSet, wAsg, wPar, wExpr, wFor, wApp, wPop, wSetIx, wVar, wBor, wTake, wC, wBin, wNil, wCons, wPrim, wCall, wTup, wLst, wSl, wNone, wSome, wM0, wM1, wB, wAndT, wOrT, wNotT, wAndV, wOrV, wNotV, wIf, wIsi, wIsi2, wNeg, wChain, wSortedSet, X_txl, X_txt, wIt, wIt.rdf, wRng1, wRng2, wLc, wYes, lcS, wipeG, backG, noMut, rd_d, rd_o, rd_b, rdf_d, rdf_o, fz_d, fz_o, fz_b, sl_d, sl_o, ok_d, ok_o, argSl_d, argSl_o, argSl_b, items_l, items_t, items_s, rds, rdF, stOk_eq, ncO_some, nc_v, nc_own, nc_no, stOks, setAll, wG, mutAt, putAt, Sl.mu, Sl.put, argSls, noB, fewB, putB, endP, cellsOf, cellF, List.getElem?_cons_zero, List.getElem?_cons_succ, List.getElem?_nil, List.set_cons_zero, List.set_cons_succ, List.append_eq, List.nil_append, List.cons_append, List.replicate, List.take_succ_cons, List.take_zero, List.take_nil, List.filterMap_cons, List.filterMap_nil, Option.map_some, Option.map_none, List.length_cons, List.length_nil, F_add_i, F_add_s, F_add_l, F_add_t, F_int, F_cmp_i, F_cmp_s, F_in_l, F_in_t, F_in_s, F_ix_l, F_ix_t, F_ix_s, F_sl_l, F_sl_t, F_sl_s, F_len_l, F_len_t, F_len_s, F_toInt, F_toStr, F_toTup_l, F_toTup_t, F_toLst_l, F_toLst_t, F_all, F_any, F_split, F_join_l, F_join_t, F_part, F_start, F_end, F_strip, F_sorted_l, F_sorted_t, N_none, N_str, N_int, N_bool, N_tup, N_lst, S_str, S_none, S_int, S_bool, S_tup, S_lst, I_str, I_none, I_int, I_bool, I_tup, I_lst, B_str, B_none, B_int, B_bool, B_tup, B_lst, T_str, T_none, T_int, T_bool, T_tup, T_lst, L_str, L_none, L_int, L_bool, L_tup, L_lst, D_str, D_none, D_int, D_bool, D_tup, D_lst, N_dic, S_dic, I_dic, B_dic, T_dic, L_dic, D_dic, E_ss, E_ii, E_bb, E_ns, E_is, E_bs, E_nn, isA_str, isA_int, isA_bool, isA_tuple, isA_list, isA_dict, fEq, fNe, fIsN, fNotN, eqv_str, eqv_int, eqv_bool, exists_eq_left', exists_eq_left, exists_and_left, R.d.injEq, R.o.injEq, PyData.bool.injEq, PyData.str.injEq, PyData.int.injEq, PyData.tuple.injEq, PyData.list.injEq, List.cons.injEq, Option.some.injEq, and_true, true_and, and_self, Bool.not_true, Bool.not_false, Bool.false_eq_true, Bool.true_eq_false, Bool.true_and, Bool.false_and, Bool.true_or, Bool.false_or, if_true, if_false, reduceIte, reduceCtorEq, not_false_eq_true, ne_eq, true_or, or_true, false_or, or_false, List.map_nil, List.map_cons, Option.toList_some, Option.toList_none, false_and, and_false, Bool.not_eq_true, Bool.or_false, Bool.or_true, Bool.and_true, Bool.and_false]
        exact h
      | some d =>
        simp only [optL] at hsz
        simp only [w_value_behind_4, w_value_behind_3, w_value_behind_2, w_value_behind_1, optT, wSeq, wIfS, wRet, wRetN, wNext, wBreak, wCont, wNever, wSet, wAsg, wPar, wExpr, wFor, wApp, wPop, wSetIx, wVar, wBor, wTake, wC, wBin, wNil, wCons, wPrim, wCall, wTup, wLst, wSl, wNone, wSome, wM0, wM1, wB, wAndT, wOrT, wNotT, wAndV, wOrV, wNotV, wIf, wIsi, wIsi2, wNeg, wChain, wSortedSet, X_txl, X_txt, wIt, wIt.rdf, wRng1, wRng2, wLc, wYes, lcS, wipeG, backG, noMut, rd_d, rd_o, rd_b, rdf_d, rdf_o, fz_d, fz_o, fz_b, sl_d, sl_o, ok_d, ok_o, argSl_d, argSl_o, argSl_b, items_l, items_t, items_s, rds, rdF, stOk_eq, ncO_some, nc_v, nc_own, nc_no, stOks, setAll, wG, mutAt, putAt, Sl.mu, Sl.put, argSls, noB, fewB, putB, endP, cellsOf, cellF, List.getElem?_cons_zero, List.getElem?_cons_succ, List.getElem?_nil, List.set_cons_zero, List.set_cons_succ, List.append_eq, List.nil_append, List.cons_append, List.replicate, List.take_succ_cons, List.take_zero, List.take_nil, List.filterMap_cons, List.filterMap_nil, Option.map_some, Option.map_none, List.length_cons, List.length_nil, F_add_i, F_add_s, F_add_l, F_add_t, F_int, F_cmp_i, F_cmp_s, F_in_l, F_in_t, F_in_s, F_ix_l, F_ix_t, F_ix_s, F_sl_l, F_sl_t, F_sl_s, F_len_l, F_len_t, F_len_s, F_toInt, F_toStr, F_toTup_l, F_toTup_t, F_toLst_l, F_toLst_t, F_all, F_any, F_split, F_join_l, F_join_t, F_part, F_start, F_end, F_strip, F_sorted_l, F_sorted_t, N_none, N_str, N_int, N_bool, N_tup, N_lst, S_str, S_none, S_int, S_bool, S_tup, S_lst, I_str, I_none, I_int, I_bool, I_tup, I_lst, B_str, B_none, B_int, B_bool, B_tup, B_lst, T_str, T_none, T_int, T_bool, T_tup, T_lst, L_str, L_none, L_int, L_bool, L_tup, L_lst, D_str, D_none, D_int, D_bool, D_tup, D_lst, N_dic, S_dic, I_dic, B_dic, T_dic, L_dic, D_dic, E_ss, E_ii, E_bb, E_ns, E_is, E_bs, E_nn, isA_str, isA_int, isA_bool, isA_tuple, isA_list, isA_dict, fEq, fNe, fIsN, fNotN, eqv_str, eqv_int, eqv_bool, exists_eq_left', exists_eq_left, exists_and_left, R.d.injEq, R.o.injEq, PyData.bool.injEq, PyData.str.injEq, PyData.int.injEq, PyData.tuple.injEq, PyData.list.injEq, List.cons.injEq, Option.some.injEq, and_true, true_and, and_self, Bool.not_true, Bool.not_false, Bool.false_eq_true, Bool.true_eq_false, Bool.true_and, Bool.false_and, Bool.true_or, Bool.false_or, if_true, if_false, reduceIte, reduceCtorEq, not_false_eq_true, ne_eq, true_or, or_true, false_or, or_false, List.map_nil, List.map_cons, Option.toList_some, Option.toList_none, false_and, and_false, Bool.not_eq_true, Bool.or_false, Bool.or_true, Bool.and_true, Bool.and_false, List.length_map, List.length_append, txs, ← List.map_append]
        exact ⟨zl _ (by omega), zl _ (by omega), h⟩

def w_acted_1 : WS := (wRet (wTup (wCons (wCall (fs_value_behind) (wCons (wVar 0) (wCons (wVar 1) wNil))) (wCons (wBin fIx (wBor 0) (wNeg (wC (PyData.int 1)))) wNil))))
def w_acted : WS := (wSeq (wIfS (wB (wVar 2)) (wRet (wTup (wCons (wVar 1) (wCons (wC (PyData.bool true)) wNil)))) wNext) w_acted_1)

/-- data that says a meaning: with lists for tuples at will -/
structure sayM (d : PyData) (m : Mng) : Prop where
  sd : sd d
  dp : d.depth < 12
  row : isRow d = true
  fro : frozenD d = m.d
/-- data that says a value -/
def sayV (d : PyData) (v : Option (List Str)) : Prop := (v = none ∧ d = .none) ∨ ∃ l, v = some l ∧ (d = .tuple (txs l) ∨ d = .list (txs l)) ∧ ∀ s ∈ l, isIt s
theorem isItemWord_fro (d : PyData) : isItemWord (frozenD d) = isItemWord d := by cases d <;> simp [frozenD, isItemWord]
theorem frozenL_txs (l : List Str) : frozenL (txs l) = txs l := by
  rw [frozenL_map]
  simp [txs, frozenD, Function.comp_def]
theorem fro_txs {d : PyData} {l : List Str} (h : d = .tuple (txs l) ∨ d = .list (txs l)) : frozenD d = .tuple (txs l) := by
  rcases h with rfl | rfl <;> simp only [frozenD, frozenL_txs]
theorem areItems_say {d : PyData} {l : List Str} (h : d = .tuple (txs l) ∨ d = .list (txs l)) (hi : ∀ s ∈ l, isIt s) : areItems d = true := by
  rcases h with rfl | rfl <;> exact areIt_all hi
theorem ok_say {d : PyData} {l : List Str} (h : d = .tuple (txs l) ∨ d = .list (txs l)) (hi : ∀ s ∈ l, isIt s) (hz : l.length ≤ 1000000) : okD d = true := by
  rcases h with rfl | rfl
  · exact ok_tup (ok_txs hi) (by simpa using hz)
  · exact ok_lst (ok_txs hi) (by simpa using hz)
theorem dp_say {d : PyData} {l : List Str} (h : d = .tuple (txs l) ∨ d = .list (txs l)) : d.depth ≤ 1 := by
  rcases h with rfl | rfl
  · exact dp_tup (dp_txs l)
  · have := depthAll_le (dp_txs l)
    simp only [PyData.depth]
    omega
def Mng.ac (m : Mng) (v : Option (List Str)) (lk : Bool) : Option (List Str) × Bool := if lk = true then (v, true) else (m.vb v, m.locked)
def vbD (p : Option (List Str) × Bool) : PyData := .tuple [optT p.1, .bool p.2]
def fs_acted : FS := fun as Q _ => ∃ (m : Mng) (v : Option (List Str)) (lk : Bool) (a : Nat), as = [.v m.d, .v (optT v), .v (.bool lk)] ∧ m.Ok a ∧ a + (optL v).length ≤ 100000 ∧ Q (.d (vbD (m.ac v lk))) []
theorem l_acted : ∀ as Q X, fs_acted as Q X → as.length = 3 := by rintro as Q X ⟨_, _, _, _, rfl, _⟩; rfl
theorem m_acted : ∀ as Q X, fs_acted as Q X → w_acted (as ++ List.replicate 0 Sl.no) (endP 3 Q X) := by
  rintro as Q X ⟨m, v, lk, a, rfl, hm, hz, h⟩
  cases lk with
  | true =>
    simp only [w_acted, wSeq, wIfS, wRet, wRetN, wNext, wBreak, wCont, wNever, wSet, wAsg, wPar, wExpr, wFor, wApp, wPop, wSetIx, wVar, wBor, wTake, wC, wBin, wNil, wCons, wPrim, wCall, wTup, wLst, wSl, wNone, wSome, wM0, wM1, wB, wAndT, wOrT, wNotT, wAndV, wOrV, wNotV, wIf, wIsi, wIsi2, wNeg, wChain, wSortedSet, X_txl, X_txt, wIt, wIt.rdf, wRng1, wRng2, wLc, wYes, lcS, wipeG, backG, noMut, rd_d, rd_o, rd_b, rdf_d, rdf_o, fz_d, fz_o, fz_b, sl_d, sl_o, ok_d, ok_o, argSl_d, argSl_o, argSl_b, items_l, items_t, items_s, rds, rdF, stOk_eq, ncO_some, nc_v, nc_own, nc_no, stOks, setAll, wG, mutAt, putAt, Sl.mu, Sl.put, argSls, noB, fewB, putB, endP, cellsOf, cellF, List.getElem?_cons_zero, List.getElem?_cons_succ, List.getElem?_nil, List.set_cons_zero, List.set_cons_succ, List.append_eq, List.nil_append, List.cons_append, List.replicate, List.take_succ_cons, List.take_zero, List.take_nil, List.filterMap_cons, List.filterMap_nil, Option.map_some, Option.map_none, List.length_cons, List.length_nil, F_add_i, F_add_s, F_add_l, F_add_t, F_int, F_cmp_i, F_cmp_s, F_in_l, F_in_t, F_in_s, F_ix_l, F_ix_t, F_ix_s, F_sl_l, F_sl_t, F_sl_s, F_len_l, F_len_t, F_len_s, F_toInt, F_toStr, F_toTup_l, F_toTup_t, F_toLst_l, F_toLst_t, F_all, F_any, F_split, F_join_l, F_join_t, F_part, F_start, F_end, F_strip, F_sorted_l, F_sorted_t, N_none, N_str, N_int, N_bool, N_tup, N_lst, S_str, S_none, S_int, S_bool, S_tup, S_lst, I_str, I_none, I_int, I_bool, I_tup, I_lst, B_str, B_none, B_int, B_bool, B_tup, B_lst, T_str, T_none, T_int, T_bool, T_tup, T_lst, L_str, L_none, L_int, L_bool, L_tup, L_lst, D_str, D_none, D_int, D_bool, D_tup, D_lst, N_dic, S_dic, I_dic, B_dic, T_dic, L_dic, D_dic, E_ss, E_ii, E_bb, E_ns, E_is, E_bs, E_nn, isA_str, isA_int, isA_bool, isA_tuple, isA_list, isA_dict, fEq, fNe, fIsN, fNotN, eqv_str, eqv_int, eqv_bool, exists_eq_left', exists_eq_left, exists_and_left, R.d.injEq, R.o.injEq, PyData.bool.injEq, PyData.str.injEq, PyData.int.injEq, PyData.tuple.injEq, PyData.list.injEq, List.cons.injEq, Option.some.injEq, and_true, true_and, and_self, Bool.not_true, Bool.not_false, Bool.false_eq_true, Bool.true_eq_false, Bool.true_and, Bool.false_and, Bool.true_or, Bool.false_or, if_true, if_false, reduceIte, reduceCtorEq, not_false_eq_true, ne_eq, true_or, or_true, false_or, or_false, List.map_nil, List.map_cons, Option.toList_some, Option.toList_none, false_and, and_false, Bool.not_eq_true, Bool.or_false, Bool.or_true, Bool.and_true, Bool.and_false]
    exact ⟨by decide, h⟩
  | false =>
    simp only [w_acted, w_acted_1, fs_value_behind, wSeq, wIfS, wRet, wRetN, wNext, wBreak, wCont, wNever, wSet, wAsg, wPar, wExpr, wFor, wApp, wPop, wSetIx, wVar, wBor, wTake, wC, wBin, wNil, wCons, wPrim, wCall, wTup, wLst, wSl, wNone, wSome, wM0, wM1, wB, wAndT, wOrT, wNotT, wAndV, wOrV, wNotV, wIf, wIsi, wIsi2, wNeg, wChain, wSortedSet, X_txl, X_txt, wIt, wIt.rdf, wRng1, wRng2, wLc, wYes, lcS, wipeG, backG, noMut, rd_d, rd_o, rd_b, rdf_d, rdf_o, fz_d, fz_o, fz_b, sl_d, sl_o, ok_d, ok_o, argSl_d, argSl_o, argSl_b, items_l, items_t, items_s, rds, rdF, stOk_eq, ncO_some, nc_v, nc_own, nc_no, stOks, setAll, wG, mutAt, putAt, Sl.mu, Sl.put, argSls, noB, fewB, putB, endP, cellsOf, cellF, List.getElem?_cons_zero, List.getElem?_cons_succ, List.getElem?_nil, List.set_cons_zero, List.set_cons_succ, List.append_eq, List.nil_append, List.cons_append, List.replicate, List.take_succ_cons, List.take_zero, List.take_nil, List.filterMap_cons, List.filterMap_nil, Option.map_some, Option.map_none, List.length_cons, List.length_nil, F_add_i, F_add_s, F_add_l, F_add_t, F_int, F_cmp_i, F_cmp_s, F_in_l, F_in_t, F_in_s, F_ix_l, F_ix_t, F_ix_s, F_sl_l, F_sl_t, F_sl_s, F_len_l, F_len_t, F_len_s, F_toInt, F_toStr, F_toTup_l, F_toTup_t, F_toLst_l, F_toLst_t, F_all, F_any, F_split, F_join_l, F_join_t, F_part, F_start, F_end, F_strip, F_sorted_l, F_sorted_t, N_none, N_str, N_int, N_bool, N_tup, N_lst, S_str, S_none, S_int, S_bool, S_tup, S_lst, I_str, I_none, I_int, I_bool, I_tup, I_lst, B_str, B_none, B_int, B_bool, B_tup, B_lst, T_str, T_none, T_int, T_bool, T_tup, T_lst, L_str, L_none, L_int, L_bool, L_tup, L_lst, D_str, D_none, D_int, D_bool, D_tup, D_lst, N_dic, S_dic, I_dic, B_dic, T_dic, L_dic, D_dic, E_ss, E_ii, E_bb, E_ns, E_is, E_bs, E_nn, isA_str, isA_int, isA_bool, isA_tuple, isA_list, isA_dict, fEq, fNe, fIsN, fNotN, eqv_str, eqv_int, eqv_bool, exists_eq_left', exists_eq_left, exists_and_left, R.d.injEq, R.o.injEq, PyData.bool.injEq, PyData.str.injEq, PyData.int.injEq, PyData.tuple.injEq, PyData.list.injEq, List.cons.injEq, Option.some.injEq, and_true, true_and, and_self, Bool.not_true, Bool.not_false, Bool.false_eq_true, Bool.true_eq_false, Bool.true_and, Bool.false_and, Bool.true_or, Bool.false_or, if_true, if_false, reduceIte, reduceCtorEq, not_false_eq_true, ne_eq, true_or, or_true, false_or, or_false, List.map_nil, List.map_cons, Option.toList_some, Option.toList_none, false_and, and_false, Bool.not_eq_true, Bool.or_false, Bool.or_true, Bool.and_true, Bool.and_false]
    refine ⟨m, v, ⟨rfl, rfl⟩, a, hm, hz, ?_⟩
    cases m with
    | c x b =>
      simp only [Mng.d, wSeq, wIfS, wRet, wRetN, wNext, wBreak, wCont, wNever, wSet, wAsg, wPar, wExpr, wFor, wApp, wPop, wSetIx, wVar, wBor, wTake, wC, wBin, wNil, wCons, wPrim, wCall, wTup, wLst, wSl, wNone, wSome, wM0, wM1, wB, wAndT, wOrT, wNotT, wAndV, wOrV, wNotV, wIf, wIsi, wIsi2, wNeg, wChain, wSortedSet, X_txl, X_txt, wIt, wIt.rdf, wRng1, wRng2, wLc, wYes, lcS, wipeG, backG, noMut, rd_d, rd_o, rd_b, rdf_d, rdf_o, fz_d, fz_o, fz_b, sl_d, sl_o, ok_d, ok_o, argSl_d, argSl_o, argSl_b, items_l, items_t, items_s, rds, rdF, stOk_eq, ncO_some, nc_v, nc_own, nc_no, stOks, setAll, wG, mutAt, putAt, Sl.mu, Sl.put, argSls, noB, fewB, putB, endP, cellsOf, cellF, List.getElem?_cons_zero, List.getElem?_cons_succ, List.getElem?_nil, List.set_cons_zero, List.set_cons_succ, List.append_eq, List.nil_append, List.cons_append, List.replicate, List.take_succ_cons, List.take_zero, List.take_nil, List.filterMap_cons, List.filterMap_nil, Option.map_some, Option.map_none, List.length_cons, List.length_nil, F_add_i, F_add_s, F_add_l, F_add_t, F_int, F_cmp_i, F_cmp_s, F_in_l, F_in_t, F_in_s, F_ix_l, F_ix_t, F_ix_s, F_sl_l, F_sl_t, F_sl_s, F_len_l, F_len_t, F_len_s, F_toInt, F_toStr, F_toTup_l, F_toTup_t, F_toLst_l, F_toLst_t, F_all, F_any, F_split, F_join_l, F_join_t, F_part, F_start, F_end, F_strip, F_sorted_l, F_sorted_t, N_none, N_str, N_int, N_bool, N_tup, N_lst, S_str, S_none, S_int, S_bool, S_tup, S_lst, I_str, I_none, I_int, I_bool, I_tup, I_lst, B_str, B_none, B_int, B_bool, B_tup, B_lst, T_str, T_none, T_int, T_bool, T_tup, T_lst, L_str, L_none, L_int, L_bool, L_tup, L_lst, D_str, D_none, D_int, D_bool, D_tup, D_lst, N_dic, S_dic, I_dic, B_dic, T_dic, L_dic, D_dic, E_ss, E_ii, E_bb, E_ns, E_is, E_bs, E_nn, isA_str, isA_int, isA_bool, isA_tuple, isA_list, isA_dict, fEq, fNe, fIsN, fNotN, eqv_str, eqv_int, eqv_bool, exists_eq_left', exists_eq_left, exists_and_left, R.d.injEq, R.o.injEq, PyData.bool.injEq, PyData.str.injEq, PyData.int.injEq, PyData.tuple.injEq, PyData.list.injEq, List.cons.injEq, Option.some.injEq, and_true, true_and, and_self, Bool.not_true, Bool.not_false, Bool.false_eq_true, Bool.true_eq_false, Bool.true_and, Bool.false_and, Bool.true_or, Bool.false_or, if_true, if_false, reduceIte, reduceCtorEq, not_false_eq_true, ne_eq, true_or, or_true, false_or, or_false, List.map_nil, List.map_cons, Option.toList_some, Option.toList_none, false_and, and_false, Bool.not_eq_true, Bool.or_false, Bool.or_true, Bool.and_true, Bool.and_false]
      exact ⟨_, rfl, by decide, h⟩
    | a bf dr bh df b =>
      simp only [Mng.d, wSeq, wIfS, wRet, wRetN, wNext, wBreak, wCont, wNever, wSet, wAsg, wPar, wExpr, wFor, wApp, wPop, wSetIx, wVar, wBor, wTake, wC, wBin, wNil, wCons, wPrim, wCall, wTup, wLst, wSl, wNone, wSome, wM0, wM1, wB, wAndT, wOrT, wNotT, wAndV, wOrV, wNotV, wIf, wIsi, wIsi2, wNeg, wChain, wSortedSet, X_txl, X_txt, wIt, wIt.rdf, wRng1, wRng2, wLc, wYes, lcS, wipeG, backG, noMut, rd_d, rd_o, rd_b, rdf_d, rdf_o, fz_d, fz_o, fz_b, sl_d, sl_o, ok_d, ok_o, argSl_d, argSl_o, argSl_b, items_l, items_t, items_s, rds, rdF, stOk_eq, ncO_some, nc_v, nc_own, nc_no, stOks, setAll, wG, mutAt, putAt, Sl.mu, Sl.put, argSls, noB, fewB, putB, endP, cellsOf, cellF, List.getElem?_cons_zero, List.getElem?_cons_succ, List.getElem?_nil, List.set_cons_zero, List.set_cons_succ, List.append_eq, List.nil_append, List.cons_append, List.replicate, List.take_succ_cons, List.take_zero, List.take_nil, List.filterMap_cons, List.filterMap_nil, Option.map_some, Option.map_none, List.length_cons, List.length_nil, F_add_i, F_add_s, F_add_l, F_add_t, F_int, F_cmp_i, F_cmp_s, F_in_l, F_in_t, F_in_s, F_ix_l, F_ix_t, F_ix_s, F_sl_l, F_sl_t, F_sl_s, F_len_l, F_len_t, F_len_s, F_toInt, F_toStr, F_toTup_l, F_toTup_t, F_toLst_l, F_toLst_t, F_all, F_any, F_split, F_join_l, F_join_t, F_part, F_start, F_end, F_strip, F_sorted_l, F_sorted_t, N_none, N_str, N_int, N_bool, N_tup, N_lst, S_str, S_none, S_int, S_bool, S_tup, S_lst, I_str, I_none, I_int, I_bool, I_tup, I_lst, B_str, B_none, B_int, B_bool, B_tup, B_lst, T_str, T_none, T_int, T_bool, T_tup, T_lst, L_str, L_none, L_int, L_bool, L_tup, L_lst, D_str, D_none, D_int, D_bool, D_tup, D_lst, N_dic, S_dic, I_dic, B_dic, T_dic, L_dic, D_dic, E_ss, E_ii, E_bb, E_ns, E_is, E_bs, E_nn, isA_str, isA_int, isA_bool, isA_tuple, isA_list, isA_dict, fEq, fNe, fIsN, fNotN, eqv_str, eqv_int, eqv_bool, exists_eq_left', exists_eq_left, exists_and_left, R.d.injEq, R.o.injEq, PyData.bool.injEq, PyData.str.injEq, PyData.int.injEq, PyData.tuple.injEq, PyData.list.injEq, List.cons.injEq, Option.some.injEq, and_true, true_and, and_self, Bool.not_true, Bool.not_false, Bool.false_eq_true, Bool.true_eq_false, Bool.true_and, Bool.false_and, Bool.true_or, Bool.false_or, if_true, if_false, reduceIte, reduceCtorEq, not_false_eq_true, ne_eq, true_or, or_true, false_or, or_false, List.map_nil, List.map_cons, Option.toList_some, Option.toList_none, false_and, and_false, Bool.not_eq_true, Bool.or_false, Bool.or_true, Bool.and_true, Bool.and_false]
      exact ⟨_, rfl, by decide, h⟩

def w_is_meaning : WS := (wRet (wCall (fs_is_meaning_row) (wCons (wVar 0) wNil)))

def fs_is_meaning : FS := fun as Q _ => ∃ d, as = [.v d] ∧ sd d ∧ Q (.d (.bool (isRow d))) []
theorem l_is_meaning : ∀ as Q X, fs_is_meaning as Q X → as.length = 1 := by rintro as Q X ⟨d, rfl, _⟩; rfl
theorem m_is_meaning : ∀ as Q X, fs_is_meaning as Q X → w_is_meaning (as ++ List.replicate 0 Sl.no) (endP 1 Q X) := by
  rintro as Q X ⟨d, rfl, ok, h⟩
  simp only [w_is_meaning, fs_is_meaning_row, wSeq, wIfS, wRet, wRetN, wNext, wBreak, wCont, wNever, wSet, wAsg, wPar, wExpr, wFor, wApp, wPop, wSetIx, wVar, wBor, wTake, wC, wBin, wNil, wCons, wPrim, wCall, wTup, wLst, wSl, wNone, wSome, wM0, wM1, wB, wAndT, wOrT, wNotT, wAndV, wOrV, wNotV, wIf, wIsi, wIsi2, wNeg, wChain, wSortedSet, X_txl, X_txt, wIt, wIt.rdf, wRng1, wRng2, wLc, wYes, lcS, wipeG, backG, noMut, rd_d, rd_o, rd_b, rdf_d, rdf_o, fz_d, fz_o, fz_b, sl_d, sl_o, ok_d, ok_o, argSl_d, argSl_o, argSl_b, items_l, items_t, items_s, rds, rdF, stOk_eq, ncO_some, nc_v, nc_own, nc_no, stOks, setAll, wG, mutAt, putAt, Sl.mu, Sl.put, argSls, noB, fewB, putB, endP, cellsOf, cellF, List.getElem?_cons_zero, List.getElem?_cons_succ, List.getElem?_nil, List.set_cons_zero, List.set_cons_succ, List.append_eq, List.nil_append, List.cons_append, List.replicate, List.take_succ_cons, List.take_zero, List.take_nil, List.filterMap_cons, List.filterMap_nil, Option.map_some, Option.map_none, List.length_cons, List.length_nil, F_add_i, F_add_s, F_add_l, F_add_t, F_int, F_cmp_i, F_cmp_s, F_in_l, F_in_t, F_in_s, F_ix_l, F_ix_t, F_ix_s, F_sl_l, F_sl_t, F_sl_s, F_len_l, F_len_t, F_len_s, F_toInt, F_toStr, F_toTup_l, F_toTup_t, F_toLst_l, F_toLst_t, F_all, F_any, F_split, F_join_l, F_join_t, F_part, F_start, F_end, F_strip, F_sorted_l, F_sorted_t, N_none, N_str, N_int, N_bool, N_tup, N_lst, S_str, S_none, S_int, S_bool, S_tup, S_lst, I_str, I_none, I_int, I_bool, I_tup, I_lst, B_str, B_none, B_int, B_bool, B_tup, B_lst, T_str, T_none, T_int, T_bool, T_tup, T_lst, L_str, L_none, L_int, L_bool, L_tup, L_lst, D_str, D_none, D_int, D_bool, D_tup, D_lst, N_dic, S_dic, I_dic, B_dic, T_dic, L_dic, D_dic, E_ss, E_ii, E_bb, E_ns, E_is, E_bs, E_nn, isA_str, isA_int, isA_bool, isA_tuple, isA_list, isA_dict, fEq, fNe, fIsN, fNotN, eqv_str, eqv_int, eqv_bool, exists_eq_left', exists_eq_left, exists_and_left, R.d.injEq, R.o.injEq, PyData.bool.injEq, PyData.str.injEq, PyData.int.injEq, PyData.tuple.injEq, PyData.list.injEq, List.cons.injEq, Option.some.injEq, and_true, true_and, and_self, Bool.not_true, Bool.not_false, Bool.false_eq_true, Bool.true_eq_false, Bool.true_and, Bool.false_and, Bool.true_or, Bool.false_or, if_true, if_false, reduceIte, reduceCtorEq, not_false_eq_true, ne_eq, true_or, or_true, false_or, or_false, List.map_nil, List.map_cons, Option.toList_some, Option.toList_none, false_and, and_false, Bool.not_eq_true, Bool.or_false, Bool.or_true, Bool.and_true, Bool.and_false]
  exact ⟨d, rfl, ok, h⟩

def w_act_1 : WS := (wRet (wCall (fs_acted) (wCons (wCall (fs_frozen) (wCons (wVar 0) wNil)) (wCons (wCall (fs_frozen) (wCons (wVar 1) wNil)) (wCons (wVar 2) wNil)))))
def w_act_2 : WS := (wSeq (wIfS (wNotT (wB (wIsi (wBor 2) "bool"))) wNever wNext) w_act_1)
def w_act_3 : WS := (wSeq (wIfS (wAndT (wB (wBin fNotN (wBor 1) (wC PyData.none))) (wNotT (wB (wCall (fs_are_items) (wCons (wVar 1) wNil))))) wNever wNext) w_act_2)
def w_act : WS := (wSeq (wIfS (wNotT (wB (wCall (fs_is_meaning) (wCons (wVar 0) wNil)))) wNever wNext) w_act_3)

def fs_act : FS := fun as Q _ => ∃ (d e : PyData) (m : Mng) (v : Option (List Str)) (lk : Bool) (a : Nat), as = [.v d, .v e, .v (.bool lk)] ∧ sayM d m ∧ m.Ok a ∧ sayV e v ∧ a + (optL v).length ≤ 100000 ∧ Q (.d (vbD (m.ac v lk))) []
theorem l_act : ∀ as Q X, fs_act as Q X → as.length = 3 := by rintro as Q X ⟨_, _, _, _, _, _, rfl, _⟩; rfl
theorem m_act : ∀ as Q X, fs_act as Q X → w_act (as ++ List.replicate 0 Sl.no) (endP 3 Q X) := by
  rintro as Q X ⟨d, e, m, v, lk, a, rfl, hd, hm, hv, hz, h⟩
  simp only [w_act, fs_is_meaning, wSeq, wIfS, wRet, wRetN, wNext, wBreak, wCont, wNever, wSet, wAsg, wPar, wExpr, wFor, wApp, wPop, wSetIx, wVar, wBor, wTake, wC, wBin, wNil, wCons, wPrim, wCall, wTup, wLst, wSl, wNone, wSome, wM0, wM1, wB, wAndT, wOrT, wNotT, wAndV, wOrV, wNotV, wIf, wIsi, wIsi2, wNeg, wChain, wSortedSet, X_txl, X_txt, wIt, wIt.rdf, wRng1, wRng2, wLc, wYes, lcS, wipeG, backG, noMut, rd_d, rd_o, rd_b, rdf_d, rdf_o, fz_d, fz_o, fz_b, sl_d, sl_o, ok_d, ok_o, argSl_d, argSl_o, argSl_b, items_l, items_t, items_s, rds, rdF, stOk_eq, ncO_some, nc_v, nc_own, nc_no, stOks, setAll, wG, mutAt, putAt, Sl.mu, Sl.put, argSls, noB, fewB, putB, endP, cellsOf, cellF, List.getElem?_cons_zero, List.getElem?_cons_succ, List.getElem?_nil, List.set_cons_zero, List.set_cons_succ, List.append_eq, List.nil_append, List.cons_append, List.replicate, List.take_succ_cons, List.take_zero, List.take_nil, List.filterMap_cons, List.filterMap_nil, Option.map_some, Option.map_none, List.length_cons, List.length_nil, F_add_i, F_add_s, F_add_l, F_add_t, F_int, F_cmp_i, F_cmp_s, F_in_l, F_in_t, F_in_s, F_ix_l, F_ix_t, F_ix_s, F_sl_l, F_sl_t, F_sl_s, F_len_l, F_len_t, F_len_s, F_toInt, F_toStr, F_toTup_l, F_toTup_t, F_toLst_l, F_toLst_t, F_all, F_any, F_split, F_join_l, F_join_t, F_part, F_start, F_end, F_strip, F_sorted_l, F_sorted_t, N_none, N_str, N_int, N_bool, N_tup, N_lst, S_str, S_none, S_int, S_bool, S_tup, S_lst, I_str, I_none, I_int, I_bool, I_tup, I_lst, B_str, B_none, B_int, B_bool, B_tup, B_lst, T_str, T_none, T_int, T_bool, T_tup, T_lst, L_str, L_none, L_int, L_bool, L_tup, L_lst, D_str, D_none, D_int, D_bool, D_tup, D_lst, N_dic, S_dic, I_dic, B_dic, T_dic, L_dic, D_dic, E_ss, E_ii, E_bb, E_ns, E_is, E_bs, E_nn, isA_str, isA_int, isA_bool, isA_tuple, isA_list, isA_dict, fEq, fNe, fIsN, fNotN, eqv_str, eqv_int, eqv_bool, exists_eq_left', exists_eq_left, exists_and_left, R.d.injEq, R.o.injEq, PyData.bool.injEq, PyData.str.injEq, PyData.int.injEq, PyData.tuple.injEq, PyData.list.injEq, List.cons.injEq, Option.some.injEq, and_true, true_and, and_self, Bool.not_true, Bool.not_false, Bool.false_eq_true, Bool.true_eq_false, Bool.true_and, Bool.false_and, Bool.true_or, Bool.false_or, if_true, if_false, reduceIte, reduceCtorEq, not_false_eq_true, ne_eq, true_or, or_true, false_or, or_false, List.map_nil, List.map_cons, Option.toList_some, Option.toList_none, false_and, and_false, Bool.not_eq_true, Bool.or_false, Bool.or_true, Bool.and_true, Bool.and_false]
  refine ⟨d, rfl, hd.sd, ?_⟩
  simp only [hd.row, w_act_3, fs_are_items, wSeq, wIfS, wRet, wRetN, wNext, wBreak, wCont, wNever, wSet, wAsg, wPar, wExpr, wFor, wApp, wPop, wSetIx, wVar, wBor, wTake, wC, wBin, wNil, wCons, wPrim, wCall, wTup, wLst, wSl, wNone, wSome, wM0, wM1, wB, wAndT, wOrT, wNotT, wAndV, wOrV, wNotV, wIf, wIsi, wIsi2, wNeg, wChain, wSortedSet, X_txl, X_txt, wIt, wIt.rdf, wRng1, wRng2, wLc, wYes, lcS, wipeG, backG, noMut, rd_d, rd_o, rd_b, rdf_d, rdf_o, fz_d, fz_o, fz_b, sl_d, sl_o, ok_d, ok_o, argSl_d, argSl_o, argSl_b, items_l, items_t, items_s, rds, rdF, stOk_eq, ncO_some, nc_v, nc_own, nc_no, stOks, setAll, wG, mutAt, putAt, Sl.mu, Sl.put, argSls, noB, fewB, putB, endP, cellsOf, cellF, List.getElem?_cons_zero, List.getElem?_cons_succ, List.getElem?_nil, List.set_cons_zero, List.set_cons_succ, List.append_eq, List.nil_append, List.cons_append, List.replicate, List.take_succ_cons, List.take_zero, List.take_nil, List.filterMap_cons, List.filterMap_nil, Option.map_some, Option.map_none, List.length_cons, List.length_nil, F_add_i, F_add_s, F_add_l, F_add_t, F_int, F_cmp_i, F_cmp_s, F_in_l, F_in_t, F_in_s, F_ix_l, F_ix_t, F_ix_s, F_sl_l, F_sl_t, F_sl_s, F_len_l, F_len_t, F_len_s, F_toInt, F_toStr, F_toTup_l, F_toTup_t, F_toLst_l, F_toLst_t, F_all, F_any, F_split, F_join_l, F_join_t, F_part, F_start, F_end, F_strip, F_sorted_l, F_sorted_t, N_none, N_str, N_int, N_bool, N_tup, N_lst, S_str, S_none, S_int, S_bool, S_tup, S_lst, I_str, I_none, I_int, I_bool, I_tup, I_lst, B_str, B_none, B_int, B_bool, B_tup, B_lst, T_str, T_none, T_int, T_bool, T_tup, T_lst, L_str, L_none, L_int, L_bool, L_tup, L_lst, D_str, D_none, D_int, D_bool, D_tup, D_lst, N_dic, S_dic, I_dic, B_dic, T_dic, L_dic, D_dic, E_ss, E_ii, E_bb, E_ns, E_is, E_bs, E_nn, isA_str, isA_int, isA_bool, isA_tuple, isA_list, isA_dict, fEq, fNe, fIsN, fNotN, eqv_str, eqv_int, eqv_bool, exists_eq_left', exists_eq_left, exists_and_left, R.d.injEq, R.o.injEq, PyData.bool.injEq, PyData.str.injEq, PyData.int.injEq, PyData.tuple.injEq, PyData.list.injEq, List.cons.injEq, Option.some.injEq, and_true, true_and, and_self, Bool.not_true, Bool.not_false, Bool.false_eq_true, Bool.true_eq_false, Bool.true_and, Bool.false_and, Bool.true_or, Bool.false_or, if_true, if_false, reduceIte, reduceCtorEq, not_false_eq_true, ne_eq, true_or, or_true, false_or, or_false, List.map_nil, List.map_cons, Option.toList_some, Option.toList_none, false_and, and_false, Bool.not_eq_true, Bool.or_false, Bool.or_true, Bool.and_true, Bool.and_false]
  rcases hv with ⟨rfl, rfl⟩ | ⟨l, rfl, hl, hi⟩
  · simp only [w_act_2, w_act_1, fs_frozen, fsr_frozen, fs_acted, wSeq, wIfS, wRet, wRetN, wNext, wBreak, wCont, wNever, wSet, wAsg, wPar, wExpr, wFor, wApp, wPop, wSetIx, wVar, wBor, wTake, wC, wBin, wNil, wCons, wPrim, wCall, wTup, wLst, wSl, wNone, wSome, wM0, wM1, wB, wAndT, wOrT, wNotT, wAndV, wOrV, wNotV, wIf, wIsi, wIsi2, wNeg, wChain, wSortedSet, X_txl, X_txt, wIt, wIt.rdf, wRng1, wRng2, wLc, wYes, lcS, wipeG, backG, noMut, rd_d, rd_o, rd_b, rdf_d, rdf_o, fz_d, fz_o, fz_b, sl_d, sl_o, ok_d, ok_o, argSl_d, argSl_o, argSl_b, items_l, items_t, items_s, rds, rdF, stOk_eq, ncO_some, nc_v, nc_own, nc_no, stOks, setAll, wG, mutAt, putAt, Sl.mu, Sl.put, argSls, noB, fewB, putB, endP, cellsOf, cellF, List.getElem?_cons_zero, List.getElem?_cons_succ, List.getElem?_nil, List.set_cons_zero, List.set_cons_succ, List.append_eq, List.nil_append, List.cons_append, List.replicate, List.take_succ_cons, List.take_zero, List.take_nil, List.filterMap_cons, List.filterMap_nil, Option.map_some, Option.map_none, List.length_cons, List.length_nil, F_add_i, F_add_s, F_add_l, F_add_t, F_int, F_cmp_i, F_cmp_s, F_in_l, F_in_t, F_in_s, F_ix_l, F_ix_t, F_ix_s, F_sl_l, F_sl_t, F_sl_s, F_len_l, F_len_t, F_len_s, F_toInt, F_toStr, F_toTup_l, F_toTup_t, F_toLst_l, F_toLst_t, F_all, F_any, F_split, F_join_l, F_join_t, F_part, F_start, F_end, F_strip, F_sorted_l, F_sorted_t, N_none, N_str, N_int, N_bool, N_tup, N_lst, S_str, S_none, S_int, S_bool, S_tup, S_lst, I_str, I_none, I_int, I_bool, I_tup, I_lst, B_str, B_none, B_int, B_bool, B_tup, B_lst, T_str, T_none, T_int, T_bool, T_tup, T_lst, L_str, L_none, L_int, L_bool, L_tup, L_lst, D_str, D_none, D_int, D_bool, D_tup, D_lst, N_dic, S_dic, I_dic, B_dic, T_dic, L_dic, D_dic, E_ss, E_ii, E_bb, E_ns, E_is, E_bs, E_nn, isA_str, isA_int, isA_bool, isA_tuple, isA_list, isA_dict, fEq, fNe, fIsN, fNotN, eqv_str, eqv_int, eqv_bool, exists_eq_left', exists_eq_left, exists_and_left, R.d.injEq, R.o.injEq, PyData.bool.injEq, PyData.str.injEq, PyData.int.injEq, PyData.tuple.injEq, PyData.list.injEq, List.cons.injEq, Option.some.injEq, and_true, true_and, and_self, Bool.not_true, Bool.not_false, Bool.false_eq_true, Bool.true_eq_false, Bool.true_and, Bool.false_and, Bool.true_or, Bool.false_or, if_true, if_false, reduceIte, reduceCtorEq, not_false_eq_true, ne_eq, true_or, or_true, false_or, or_false, List.map_nil, List.map_cons, Option.toList_some, Option.toList_none, false_and, and_false, Bool.not_eq_true, Bool.or_false, Bool.or_true, Bool.and_true, Bool.and_false]
    refine ⟨d, rfl, hd.dp, hd.sd.1, .none, rfl, by decide, rfl, m, none, lk, ⟨congrArg Sl.v hd.fro, ?_, rfl⟩, a, hm, hz, h⟩
    simp only [frozenD, optT]
  · have en : isNone e = false := by rcases hl with rfl | rfl <;> rfl
    simp only [optL] at hz
    simp only [en, wSeq, wIfS, wRet, wRetN, wNext, wBreak, wCont, wNever, wSet, wAsg, wPar, wExpr, wFor, wApp, wPop, wSetIx, wVar, wBor, wTake, wC, wBin, wNil, wCons, wPrim, wCall, wTup, wLst, wSl, wNone, wSome, wM0, wM1, wB, wAndT, wOrT, wNotT, wAndV, wOrV, wNotV, wIf, wIsi, wIsi2, wNeg, wChain, wSortedSet, X_txl, X_txt, wIt, wIt.rdf, wRng1, wRng2, wLc, wYes, lcS, wipeG, backG, noMut, rd_d, rd_o, rd_b, rdf_d, rdf_o, fz_d, fz_o, fz_b, sl_d, sl_o, ok_d, ok_o, argSl_d, argSl_o, argSl_b, items_l, items_t, items_s, rds, rdF, stOk_eq, ncO_some, nc_v, nc_own, nc_no, stOks, setAll, wG, mutAt, putAt, Sl.mu, Sl.put, argSls, noB, fewB, putB, endP, cellsOf, cellF, List.getElem?_cons_zero, List.getElem?_cons_succ, List.getElem?_nil, List.set_cons_zero, List.set_cons_succ, List.append_eq, List.nil_append, List.cons_append, List.replicate, List.take_succ_cons, List.take_zero, List.take_nil, List.filterMap_cons, List.filterMap_nil, Option.map_some, Option.map_none, List.length_cons, List.length_nil, F_add_i, F_add_s, F_add_l, F_add_t, F_int, F_cmp_i, F_cmp_s, F_in_l, F_in_t, F_in_s, F_ix_l, F_ix_t, F_ix_s, F_sl_l, F_sl_t, F_sl_s, F_len_l, F_len_t, F_len_s, F_toInt, F_toStr, F_toTup_l, F_toTup_t, F_toLst_l, F_toLst_t, F_all, F_any, F_split, F_join_l, F_join_t, F_part, F_start, F_end, F_strip, F_sorted_l, F_sorted_t, N_none, N_str, N_int, N_bool, N_tup, N_lst, S_str, S_none, S_int, S_bool, S_tup, S_lst, I_str, I_none, I_int, I_bool, I_tup, I_lst, B_str, B_none, B_int, B_bool, B_tup, B_lst, T_str, T_none, T_int, T_bool, T_tup, T_lst, L_str, L_none, L_int, L_bool, L_tup, L_lst, D_str, D_none, D_int, D_bool, D_tup, D_lst, N_dic, S_dic, I_dic, B_dic, T_dic, L_dic, D_dic, E_ss, E_ii, E_bb, E_ns, E_is, E_bs, E_nn, isA_str, isA_int, isA_bool, isA_tuple, isA_list, isA_dict, fEq, fNe, fIsN, fNotN, eqv_str, eqv_int, eqv_bool, exists_eq_left', exists_eq_left, exists_and_left, R.d.injEq, R.o.injEq, PyData.bool.injEq, PyData.str.injEq, PyData.int.injEq, PyData.tuple.injEq, PyData.list.injEq, List.cons.injEq, Option.some.injEq, and_true, true_and, and_self, Bool.not_true, Bool.not_false, Bool.false_eq_true, Bool.true_eq_false, Bool.true_and, Bool.false_and, Bool.true_or, Bool.false_or, if_true, if_false, reduceIte, reduceCtorEq, not_false_eq_true, ne_eq, true_or, or_true, false_or, or_false, List.map_nil, List.map_cons, Option.toList_some, Option.toList_none, false_and, and_false, Bool.not_eq_true, Bool.or_false, Bool.or_true, Bool.and_true, Bool.and_false]
    refine ⟨e, rfl, ok_say hl hi (by omega), ?_⟩
    rw [areItems_say hl hi]
    simp only [w_act_2, w_act_1, fs_frozen, fsr_frozen, fs_acted, wSeq, wIfS, wRet, wRetN, wNext, wBreak, wCont, wNever, wSet, wAsg, wPar, wExpr, wFor, wApp, wPop, wSetIx, wVar, wBor, wTake, wC, wBin, wNil, wCons, wPrim, wCall, wTup, wLst, wSl, wNone, wSome, wM0, wM1, wB, wAndT, wOrT, wNotT, wAndV, wOrV, wNotV, wIf, wIsi, wIsi2, wNeg, wChain, wSortedSet, X_txl, X_txt, wIt, wIt.rdf, wRng1, wRng2, wLc, wYes, lcS, wipeG, backG, noMut, rd_d, rd_o, rd_b, rdf_d, rdf_o, fz_d, fz_o, fz_b, sl_d, sl_o, ok_d, ok_o, argSl_d, argSl_o, argSl_b, items_l, items_t, items_s, rds, rdF, stOk_eq, ncO_some, nc_v, nc_own, nc_no, stOks, setAll, wG, mutAt, putAt, Sl.mu, Sl.put, argSls, noB, fewB, putB, endP, cellsOf, cellF, List.getElem?_cons_zero, List.getElem?_cons_succ, List.getElem?_nil, List.set_cons_zero, List.set_cons_succ, List.append_eq, List.nil_append, List.cons_append, List.replicate, List.take_succ_cons, List.take_zero, List.take_nil, List.filterMap_cons, List.filterMap_nil, Option.map_some, Option.map_none, List.length_cons, List.length_nil, F_add_i, F_add_s, F_add_l, F_add_t, F_int, F_cmp_i, F_cmp_s, F_in_l, F_in_t, F_in_s, F_ix_l, F_ix_t, F_ix_s, F_sl_l, F_sl_t, F_sl_s, F_len_l, F_len_t, F_len_s, F_toInt, F_toStr, F_toTup_l, F_toTup_t, F_toLst_l, F_toLst_t, F_all, F_any, F_split, F_join_l, F_join_t, F_part, F_start, F_end, F_strip, F_sorted_l, F_sorted_t, N_none, N_str, N_int, N_bool, N_tup, N_lst, S_str, S_none, S_int, S_bool, S_tup, S_lst, I_str, I_none, I_int, I_bool, I_tup, I_lst, B_str, B_none, B_int, B_bool, B_tup, B_lst, T_str, T_none, T_int, T_bool, T_tup, T_lst, L_str, L_none, L_int, L_bool, L_tup, L_lst, D_str, D_none, D_int, D_bool, D_tup, D_lst, N_dic, S_dic, I_dic, B_dic, T_dic, L_dic, D_dic, E_ss, E_ii, E_bb, E_ns, E_is, E_bs, E_nn, isA_str, isA_int, isA_bool, isA_tuple, isA_list, isA_dict, fEq, fNe, fIsN, fNotN, eqv_str, eqv_int, eqv_bool, exists_eq_left', exists_eq_left, exists_and_left, R.d.injEq, R.o.injEq, PyData.bool.injEq, PyData.str.injEq, PyData.int.injEq, PyData.tuple.injEq, PyData.list.injEq, List.cons.injEq, Option.some.injEq, and_true, true_and, and_self, Bool.not_true, Bool.not_false, Bool.false_eq_true, Bool.true_eq_false, Bool.true_and, Bool.false_and, Bool.true_or, Bool.false_or, if_true, if_false, reduceIte, reduceCtorEq, not_false_eq_true, ne_eq, true_or, or_true, false_or, or_false, List.map_nil, List.map_cons, Option.toList_some, Option.toList_none, false_and, and_false, Bool.not_eq_true, Bool.or_false, Bool.or_true, Bool.and_true, Bool.and_false]
    refine ⟨d, rfl, hd.dp, hd.sd.1, e, rfl, Nat.lt_of_le_of_lt (dp_say hl) (by decide), ok_say hl hi (by omega), m, some l, lk, ⟨congrArg Sl.v hd.fro, ?_, rfl⟩, a, hm, hz, h⟩
    simp only [fro_txs hl, optT]

def w__law_so_1 (fs_rec : FS) : WS := (wIfS (wNotT (wB (wCall fs_rec (wCons (wBin fIx (wBor 0) (wVar 2)) (wCons (wBin fIx (wBor 1) (wVar 2)) wNil))))) (wRet (wC (PyData.bool false))) wNext)
def w__law_so_2 : WS := (wRet (wC (PyData.bool true)))
def w__law_so_3 (fs_rec : FS) : WS := (wSeq (wFor (wRng1 (wCons (wPrim fLen (wCons (wBor 1) wNil)) wNil)) (.n 2) (w__law_so_1 fs_rec)) w__law_so_2)
def w__law_so_4 : WS := (wRet (wAndV (wIsi (wBor 1) "str") (wAndV (wIsi (wBor 0) "str") (wBin fEq (wBor 0) (wBor 1)))))
def w__law_so_5 : WS := (wSeq (wIfS (wB (wIsi (wBor 1) "int")) (wRet (wAndV (wIsi (wBor 0) "int") (wBin fEq (wBor 0) (wBor 1)))) wNext) w__law_so_4)
def w__law_so_6 : WS := (wSeq (wIfS (wOrT (wB (wIsi (wBor 1) "bool")) (wB (wIsi (wBor 0) "bool"))) (wRet (wAndV (wIsi (wBor 1) "bool") (wAndV (wIsi (wBor 0) "bool") (wBin fEq (wBor 0) (wBor 1))))) wNext) w__law_so_5)
def w__law_so_7 (fs_rec : FS) : WS := (wSeq (wIfS (wB (wIsi (wBor 1) "tuple")) (wSeq (wIfS (wOrT (wNotT (wB (wIsi (wBor 0) "tuple"))) (wB (wBin fNe (wPrim fLen (wCons (wBor 0) wNil)) (wPrim fLen (wCons (wBor 1) wNil))))) (wRet (wC (PyData.bool false))) wNext) (w__law_so_3 fs_rec)) wNext) w__law_so_6)
def w__law_so (fs_rec : FS) : WS := (wSeq (wIfS (wB (wBin fIsN (wBor 1) (wC PyData.none))) (wRet (wBin fIsN (wBor 0) (wC PyData.none))) wNext) (w__law_so_7 fs_rec))

mutual
def soD : PyData → PyData → Bool
  | x, .tuple ms => match x with
    | .tuple xs => soAll xs ms
    | _ => false
  | x, .none => isNone x
  | x, .bool b => match x with
    | .bool c => c == b
    | _ => false
  | x, .int i => match x with
    | .int j => j == i
    | _ => false
  | x, .str s => match x with
    | .str t => t == s
    | _ => false
  | _, .list _ => false
  | _, .dict _ => false
def soAll : List PyData → List PyData → Bool
  | xs, [] => xs.isEmpty
  | xs, m :: ms => match xs with
    | x :: xs => soD x m && soAll xs ms
    | [] => false
end
theorem soAll_of : ∀ {xs ms : List PyData}, xs.length = ms.length → (∀ (k : Nat) (x m : PyData), xs[k]? = some x → ms[k]? = some m → soD x m = true) → soAll xs ms = true
  | [], [], _, _ => by simp [soAll]
  | x :: xs, m :: ms, hl, h => by
    simp only [soAll, Bool.and_eq_true]
    exact ⟨h 0 x m rfl rfl, soAll_of (by simpa using hl) fun k a b ha hb => h (k + 1) a b (by simpa using ha) (by simpa using hb)⟩
theorem soAll_len : ∀ {xs ms : List PyData}, soAll xs ms = true → xs.length = ms.length
  | [], [], _ => rfl
  | _ :: _, [], h => by simp [soAll] at h
  | [], _ :: _, h => by simp [soAll] at h
  | x :: xs, m :: ms, h => by
    simp only [soAll, Bool.and_eq_true] at h
    simp [soAll_len h.2]
theorem soAll_at : ∀ {xs ms : List PyData} {k : Nat} {x m : PyData}, soAll xs ms = true → xs[k]? = some x → ms[k]? = some m → soD x m = true
  | [], _, k, x, m, _, hx, _ => by simp at hx
  | _ :: _, [], k, x, m, _, _, hm => by simp at hm
  | x :: xs, m :: ms, 0, y, n, h, hx, hm => by
    simp only [soAll, Bool.and_eq_true] at h
    simp at hx hm
    rw [← hx, ← hm]
    exact h.1
  | x :: xs, m :: ms, k + 1, y, n, h, hx, hm => by
    simp only [soAll, Bool.and_eq_true] at h
    exact soAll_at h.2 (by simpa using hx) (by simpa using hm)
def fsr__law_so (n : Nat) : FS := fun as Q _ => ∃ x m, as = [.v x, .v m] ∧ m.depth < n ∧ okD m = true ∧ Q (.d (.bool (soD x m))) []
abbrev fs__law_so : FS := fsr__law_so 12
theorem z__law_so : ∀ as Q X, ¬ fsr__law_so 0 as Q X := by rintro as Q X ⟨x, m, _, h, _⟩; omega
theorem l__law_so (n : Nat) : ∀ as Q X, fsr__law_so n as Q X → as.length = 2 := by rintro as Q X ⟨_, _, rfl, _⟩; rfl
theorem m__law_so (n : Nat) : ∀ as Q X, fsr__law_so (n + 1) as Q X → w__law_so (fsr__law_so n) (as ++ List.replicate 1 Sl.no) (endP 2 Q X) := by
  rintro as Q X ⟨x, m, rfl, hd, ok, h⟩
  cases m with
  | none =>
    simp only [w__law_so, wSeq, wIfS, wRet, wRetN, wNext, wBreak, wCont, wNever, wSet, wAsg, wPar, wExpr, wFor, wApp, wPop, wSetIx, wVar, wBor, wTake, wC, wBin, wNil, wCons, wPrim, wCall, wTup, wLst, wSl, wNone, wSome, wM0, wM1, wB, wAndT, wOrT, wNotT, wAndV, wOrV, wNotV, wIf, wIsi, wIsi2, wNeg, wChain, wSortedSet, X_txl, X_txt, wIt, wIt.rdf, wRng1, wRng2, wLc, wYes, lcS, wipeG, backG, noMut, rd_d, rd_o, rd_b, rdf_d, rdf_o, fz_d, fz_o, fz_b, sl_d, sl_o, ok_d, ok_o, argSl_d, argSl_o, argSl_b, items_l, items_t, items_s, rds, rdF, stOk_eq, ncO_some, nc_v, nc_own, nc_no, stOks, setAll, wG, mutAt, putAt, Sl.mu, Sl.put, argSls, noB, fewB, putB, endP, cellsOf, cellF, List.getElem?_cons_zero, List.getElem?_cons_succ, List.getElem?_nil, List.set_cons_zero, List.set_cons_succ, List.append_eq, List.nil_append, List.cons_append, List.replicate, List.take_succ_cons, List.take_zero, List.take_nil, List.filterMap_cons, List.filterMap_nil, Option.map_some, Option.map_none, List.length_cons, List.length_nil, F_add_i, F_add_s, F_add_l, F_add_t, F_int, F_cmp_i, F_cmp_s, F_in_l, F_in_t, F_in_s, F_ix_l, F_ix_t, F_ix_s, F_sl_l, F_sl_t, F_sl_s, F_len_l, F_len_t, F_len_s, F_toInt, F_toStr, F_toTup_l, F_toTup_t, F_toLst_l, F_toLst_t, F_all, F_any, F_split, F_join_l, F_join_t, F_part, F_start, F_end, F_strip, F_sorted_l, F_sorted_t, N_none, N_str, N_int, N_bool, N_tup, N_lst, S_str, S_none, S_int, S_bool, S_tup, S_lst, I_str, I_none, I_int, I_bool, I_tup, I_lst, B_str, B_none, B_int, B_bool, B_tup, B_lst, T_str, T_none, T_int, T_bool, T_tup, T_lst, L_str, L_none, L_int, L_bool, L_tup, L_lst, D_str, D_none, D_int, D_bool, D_tup, D_lst, N_dic, S_dic, I_dic, B_dic, T_dic, L_dic, D_dic, E_ss, E_ii, E_bb, E_ns, E_is, E_bs, E_nn, isA_str, isA_int, isA_bool, isA_tuple, isA_list, isA_dict, fEq, fNe, fIsN, fNotN, eqv_str, eqv_int, eqv_bool, exists_eq_left', exists_eq_left, exists_and_left, R.d.injEq, R.o.injEq, PyData.bool.injEq, PyData.str.injEq, PyData.int.injEq, PyData.tuple.injEq, PyData.list.injEq, List.cons.injEq, Option.some.injEq, and_true, true_and, and_self, Bool.not_true, Bool.not_false, Bool.false_eq_true, Bool.true_eq_false, Bool.true_and, Bool.false_and, Bool.true_or, Bool.false_or, if_true, if_false, reduceIte, reduceCtorEq, not_false_eq_true, ne_eq, true_or, or_true, false_or, or_false, List.map_nil, List.map_cons, Option.toList_some, Option.toList_none, false_and, and_false, Bool.not_eq_true, Bool.or_false, Bool.or_true, Bool.and_true, Bool.and_false]
    simpa only [soD] using h
  | tuple ms =>
    simp only [w__law_so, w__law_so_7, wSeq, wIfS, wRet, wRetN, wNext, wBreak, wCont, wNever, wSet, wAsg, wPar, wExpr, wFor, wApp, wPop, wSetIx, wVar, wBor, wTake, wC, wBin, wNil, wCons, wPrim, wCall, wTup, wLst, wSl, wNone, wSome, wM0, wM1, wB, wAndT, wOrT, wNotT, wAndV, wOrV, wNotV, wIf, wIsi, wIsi2, wNeg, wChain, wSortedSet, X_txl, X_txt, wIt, wIt.rdf, wRng1, wRng2, wLc, wYes, lcS, wipeG, backG, noMut, rd_d, rd_o, rd_b, rdf_d, rdf_o, fz_d, fz_o, fz_b, sl_d, sl_o, ok_d, ok_o, argSl_d, argSl_o, argSl_b, items_l, items_t, items_s, rds, rdF, stOk_eq, ncO_some, nc_v, nc_own, nc_no, stOks, setAll, wG, mutAt, putAt, Sl.mu, Sl.put, argSls, noB, fewB, putB, endP, cellsOf, cellF, List.getElem?_cons_zero, List.getElem?_cons_succ, List.getElem?_nil, List.set_cons_zero, List.set_cons_succ, List.append_eq, List.nil_append, List.cons_append, List.replicate, List.take_succ_cons, List.take_zero, List.take_nil, List.filterMap_cons, List.filterMap_nil, Option.map_some, Option.map_none, List.length_cons, List.length_nil, F_add_i, F_add_s, F_add_l, F_add_t, F_int, F_cmp_i, F_cmp_s, F_in_l, F_in_t, F_in_s, F_ix_l, F_ix_t, F_ix_s, F_sl_l, F_sl_t, F_sl_s, F_len_l, F_len_t, F_len_s, F_toInt, F_toStr, F_toTup_l, F_toTup_t, F_toLst_l, F_toLst_t, F_all, F_any, F_split, F_join_l, F_join_t, F_part, F_start, F_end, F_strip, F_sorted_l, F_sorted_t, N_none, N_str, N_int, N_bool, N_tup, N_lst, S_str, S_none, S_int, S_bool, S_tup, S_lst, I_str, I_none, I_int, I_bool, I_tup, I_lst, B_str, B_none, B_int, B_bool, B_tup, B_lst, T_str, T_none, T_int, T_bool, T_tup, T_lst, L_str, L_none, L_int, L_bool, L_tup, L_lst, D_str, D_none, D_int, D_bool, D_tup, D_lst, N_dic, S_dic, I_dic, B_dic, T_dic, L_dic, D_dic, E_ss, E_ii, E_bb, E_ns, E_is, E_bs, E_nn, isA_str, isA_int, isA_bool, isA_tuple, isA_list, isA_dict, fEq, fNe, fIsN, fNotN, eqv_str, eqv_int, eqv_bool, exists_eq_left', exists_eq_left, exists_and_left, R.d.injEq, R.o.injEq, PyData.bool.injEq, PyData.str.injEq, PyData.int.injEq, PyData.tuple.injEq, PyData.list.injEq, List.cons.injEq, Option.some.injEq, and_true, true_and, and_self, Bool.not_true, Bool.not_false, Bool.false_eq_true, Bool.true_eq_false, Bool.true_and, Bool.false_and, Bool.true_or, Bool.false_or, if_true, if_false, reduceIte, reduceCtorEq, not_false_eq_true, ne_eq, true_or, or_true, false_or, or_false, List.map_nil, List.map_cons, Option.toList_some, Option.toList_none, false_and, and_false, Bool.not_eq_true, Bool.or_false, Bool.or_true, Bool.and_true, Bool.and_false]
    have h0 : ∀ y, (∀ l, y ≠ .tuple l) → soD y (.tuple ms) = false := fun y hy => by
      simp only [soD]
      try (split; exact absurd rfl (hy _); rfl)
    cases x with
    | tuple xs =>
      simp only [wSeq, wIfS, wRet, wRetN, wNext, wBreak, wCont, wNever, wSet, wAsg, wPar, wExpr, wFor, wApp, wPop, wSetIx, wVar, wBor, wTake, wC, wBin, wNil, wCons, wPrim, wCall, wTup, wLst, wSl, wNone, wSome, wM0, wM1, wB, wAndT, wOrT, wNotT, wAndV, wOrV, wNotV, wIf, wIsi, wIsi2, wNeg, wChain, wSortedSet, X_txl, X_txt, wIt, wIt.rdf, wRng1, wRng2, wLc, wYes, lcS, wipeG, backG, noMut, rd_d, rd_o, rd_b, rdf_d, rdf_o, fz_d, fz_o, fz_b, sl_d, sl_o, ok_d, ok_o, argSl_d, argSl_o, argSl_b, items_l, items_t, items_s, rds, rdF, stOk_eq, ncO_some, nc_v, nc_own, nc_no, stOks, setAll, wG, mutAt, putAt, Sl.mu, Sl.put, argSls, noB, fewB, putB, endP, cellsOf, cellF, List.getElem?_cons_zero, List.getElem?_cons_succ, List.getElem?_nil, List.set_cons_zero, List.set_cons_succ, List.append_eq, List.nil_append, List.cons_append, List.replicate, List.take_succ_cons, List.take_zero, List.take_nil, List.filterMap_cons, List.filterMap_nil, Option.map_some, Option.map_none, List.length_cons, List.length_nil, F_add_i, F_add_s, F_add_l, F_add_t, F_int, F_cmp_i, F_cmp_s, F_in_l, F_in_t, F_in_s, F_ix_l, F_ix_t, F_ix_s, F_sl_l, F_sl_t, F_sl_s, F_len_l, F_len_t, F_len_s, F_toInt, F_toStr, F_toTup_l, F_toTup_t, F_toLst_l, F_toLst_t, F_all, F_any, F_split, F_join_l, F_join_t, F_part, F_start, F_end, F_strip, F_sorted_l, F_sorted_t, N_none, N_str, N_int, N_bool, N_tup, N_lst, S_str, S_none, S_int, S_bool, S_tup, S_lst, I_str, I_none, I_int, I_bool, I_tup, I_lst, B_str, B_none, B_int, B_bool, B_tup, B_lst, T_str, T_none, T_int, T_bool, T_tup, T_lst, L_str, L_none, L_int, L_bool, L_tup, L_lst, D_str, D_none, D_int, D_bool, D_tup, D_lst, N_dic, S_dic, I_dic, B_dic, T_dic, L_dic, D_dic, E_ss, E_ii, E_bb, E_ns, E_is, E_bs, E_nn, isA_str, isA_int, isA_bool, isA_tuple, isA_list, isA_dict, fEq, fNe, fIsN, fNotN, eqv_str, eqv_int, eqv_bool, exists_eq_left', exists_eq_left, exists_and_left, R.d.injEq, R.o.injEq, PyData.bool.injEq, PyData.str.injEq, PyData.int.injEq, PyData.tuple.injEq, PyData.list.injEq, List.cons.injEq, Option.some.injEq, and_true, true_and, and_self, Bool.not_true, Bool.not_false, Bool.false_eq_true, Bool.true_eq_false, Bool.true_and, Bool.false_and, Bool.true_or, Bool.false_or, if_true, if_false, reduceIte, reduceCtorEq, not_false_eq_true, ne_eq, true_or, or_true, false_or, or_false, List.map_nil, List.map_cons, Option.toList_some, Option.toList_none, false_and, and_false, Bool.not_eq_true, Bool.or_false, Bool.or_true, Bool.and_true, Bool.and_false]
      by_cases hl : xs.length = ms.length
      · have e1 : (((xs.length : Nat) : Int) == ((ms.length : Nat) : Int)) = true := by rw [hl]; exact beq_self_eq_true _
        simp only [e1, exists_eq_left', exists_eq_left, exists_and_left, R.d.injEq, R.o.injEq, PyData.bool.injEq, PyData.str.injEq, PyData.int.injEq, PyData.tuple.injEq, PyData.list.injEq, List.cons.injEq, Option.some.injEq, and_true, true_and, and_self, Bool.not_true, Bool.not_false, Bool.false_eq_true, Bool.true_eq_false, Bool.true_and, Bool.false_and, Bool.true_or, Bool.false_or, if_true, if_false, reduceIte, reduceCtorEq, not_false_eq_true, ne_eq, true_or, or_true, false_or, or_false, List.map_nil, List.map_cons, Option.toList_some, Option.toList_none, false_and, and_false, Bool.not_eq_true, Bool.or_false, Bool.or_true, Bool.and_true, Bool.and_false, w__law_so_3, wSeq, wIfS, wRet, wRetN, wNext, wBreak, wCont, wNever, wSet, wAsg, wPar, wExpr, wFor, wApp, wPop, wSetIx, wVar, wBor, wTake, wC, wBin, wNil, wCons, wPrim, wCall, wTup, wLst, wSl, wNone, wSome, wM0, wM1, wB, wAndT, wOrT, wNotT, wAndV, wOrV, wNotV, wIf, wIsi, wIsi2, wNeg, wChain, wSortedSet, X_txl, X_txt, wIt, wIt.rdf, wRng1, wRng2, wLc, wYes, lcS, wipeG, backG, noMut, rd_d, rd_o, rd_b, rdf_d, rdf_o, fz_d, fz_o, fz_b, sl_d, sl_o, ok_d, ok_o, argSl_d, argSl_o, argSl_b, items_l, items_t, items_s, rds, rdF, stOk_eq, ncO_some, nc_v, nc_own, nc_no, stOks, setAll, wG, mutAt, putAt, Sl.mu, Sl.put, argSls, noB, fewB, putB, endP, cellsOf, cellF, List.getElem?_cons_zero, List.getElem?_cons_succ, List.getElem?_nil, List.set_cons_zero, List.set_cons_succ, List.append_eq, List.nil_append, List.cons_append, List.replicate, List.take_succ_cons, List.take_zero, List.take_nil, List.filterMap_cons, List.filterMap_nil, Option.map_some, Option.map_none, List.length_cons, List.length_nil, F_add_i, F_add_s, F_add_l, F_add_t, F_int, F_cmp_i, F_cmp_s, F_in_l, F_in_t, F_in_s, F_ix_l, F_ix_t, F_ix_s, F_sl_l, F_sl_t, F_sl_s, F_len_l, F_len_t, F_len_s, F_toInt, F_toStr, F_toTup_l, F_toTup_t, F_toLst_l, F_toLst_t, F_all, F_any, F_split, F_join_l, F_join_t, F_part, F_start, F_end, F_strip, F_sorted_l, F_sorted_t, N_none, N_str, N_int, N_bool, N_tup, N_lst, S_str, S_none, S_int, S_bool, S_tup, S_lst, I_str, I_none, I_int, I_bool, I_tup, I_lst, B_str, B_none, B_int, B_bool, B_tup, B_lst, T_str, T_none, T_int, T_bool, T_tup, T_lst, L_str, L_none, L_int, L_bool, L_tup, L_lst, D_str, D_none, D_int, D_bool, D_tup, D_lst, N_dic, S_dic, I_dic, B_dic, T_dic, L_dic, D_dic, E_ss, E_ii, E_bb, E_ns, E_is, E_bs, E_nn, isA_str, isA_int, isA_bool, isA_tuple, isA_list, isA_dict, fEq, fNe, fIsN, fNotN, eqv_str, eqv_int, eqv_bool]
        refine ⟨inR_of (len_tup ok), ?_⟩
        have hms := of_tup ok
        refine forI_E (List.range ms.length) (fun (k : Nat) => .int (0 + k)) (fun pre Γ => ∃ e, Γ = [.v (.tuple xs), .v (.tuple ms), e] ∧ nc e ∧ ∀ (k : Nat) (a b : PyData), k < pre.length → xs[k]? = some a → ms[k]? = some b → soD a b = true) ?_ ⟨_, rfl, trivial, by simp⟩ ?_ ?_
        · rw [rangeL_map]; simp
        · rintro pre k post _ q ⟨e, rfl, ne, hall⟩ N hN
          have hk : k = pre.length ∧ k < ms.length := by
            have h1 : (List.range ms.length)[pre.length]? = some k := by rw [q]; simp
            rw [List.getElem?_range] at h1
            · have := Option.some.inj h1
              refine ⟨this.symm, ?_⟩
              have h2 := congrArg List.length q
              simp only [List.length_range, List.length_append, List.length_cons] at h2
              omega
            · have h2 := congrArg List.length q
              simp only [List.length_range, List.length_append, List.length_cons] at h2
              omega
          obtain ⟨hk1, hk2⟩ := hk
          have ax : atI xs (0 + (k : Int)) = some xs[k] := by rw [Int.zero_add]; exact atI_nat (List.getElem?_eq_getElem (by omega))
          have am : atI ms (0 + (k : Int)) = some ms[k] := by rw [Int.zero_add]; exact atI_nat (List.getElem?_eq_getElem hk2)
          simp only [w__law_so_1, fsr__law_so, wSeq, wIfS, wRet, wRetN, wNext, wBreak, wCont, wNever, wSet, wAsg, wPar, wExpr, wFor, wApp, wPop, wSetIx, wVar, wBor, wTake, wC, wBin, wNil, wCons, wPrim, wCall, wTup, wLst, wSl, wNone, wSome, wM0, wM1, wB, wAndT, wOrT, wNotT, wAndV, wOrV, wNotV, wIf, wIsi, wIsi2, wNeg, wChain, wSortedSet, X_txl, X_txt, wIt, wIt.rdf, wRng1, wRng2, wLc, wYes, lcS, wipeG, backG, noMut, rd_d, rd_o, rd_b, rdf_d, rdf_o, fz_d, fz_o, fz_b, sl_d, sl_o, ok_d, ok_o, argSl_d, argSl_o, argSl_b, items_l, items_t, items_s, rds, rdF, stOk_eq, ncO_some, nc_v, nc_own, nc_no, stOks, setAll, wG, mutAt, putAt, Sl.mu, Sl.put, argSls, noB, fewB, putB, endP, cellsOf, cellF, List.getElem?_cons_zero, List.getElem?_cons_succ, List.getElem?_nil, List.set_cons_zero, List.set_cons_succ, List.append_eq, List.nil_append, List.cons_append, List.replicate, List.take_succ_cons, List.take_zero, List.take_nil, List.filterMap_cons, List.filterMap_nil, Option.map_some, Option.map_none, List.length_cons, List.length_nil, F_add_i, F_add_s, F_add_l, F_add_t, F_int, F_cmp_i, F_cmp_s, F_in_l, F_in_t, F_in_s, F_ix_l, F_ix_t, F_ix_s, F_sl_l, F_sl_t, F_sl_s, F_len_l, F_len_t, F_len_s, F_toInt, F_toStr, F_toTup_l, F_toTup_t, F_toLst_l, F_toLst_t, F_all, F_any, F_split, F_join_l, F_join_t, F_part, F_start, F_end, F_strip, F_sorted_l, F_sorted_t, N_none, N_str, N_int, N_bool, N_tup, N_lst, S_str, S_none, S_int, S_bool, S_tup, S_lst, I_str, I_none, I_int, I_bool, I_tup, I_lst, B_str, B_none, B_int, B_bool, B_tup, B_lst, T_str, T_none, T_int, T_bool, T_tup, T_lst, L_str, L_none, L_int, L_bool, L_tup, L_lst, D_str, D_none, D_int, D_bool, D_tup, D_lst, N_dic, S_dic, I_dic, B_dic, T_dic, L_dic, D_dic, E_ss, E_ii, E_bb, E_ns, E_is, E_bs, E_nn, isA_str, isA_int, isA_bool, isA_tuple, isA_list, isA_dict, fEq, fNe, fIsN, fNotN, eqv_str, eqv_int, eqv_bool, exists_eq_left', exists_eq_left, exists_and_left, R.d.injEq, R.o.injEq, PyData.bool.injEq, PyData.str.injEq, PyData.int.injEq, PyData.tuple.injEq, PyData.list.injEq, List.cons.injEq, Option.some.injEq, and_true, true_and, and_self, Bool.not_true, Bool.not_false, Bool.false_eq_true, Bool.true_eq_false, Bool.true_and, Bool.false_and, Bool.true_or, Bool.false_or, if_true, if_false, reduceIte, reduceCtorEq, not_false_eq_true, ne_eq, true_or, or_true, false_or, or_false, List.map_nil, List.map_cons, Option.toList_some, Option.toList_none, false_and, and_false, Bool.not_eq_true, Bool.or_false, Bool.or_true, Bool.and_true, Bool.and_false, ne, ax, am, Option.some.injEq]
          refine ⟨xs[k], ms[k], ⟨rfl, rfl⟩, ?_, hms _ (List.getElem_mem _), ?_⟩
          · have h3 := depth_mem (List.getElem_mem hk2)
            simp only [PyData.depth] at hd
            omega
          · cases hs : soD xs[k] ms[k] with
            | true =>
              simp only [exists_eq_left', exists_eq_left, exists_and_left, R.d.injEq, R.o.injEq, PyData.bool.injEq, PyData.str.injEq, PyData.int.injEq, PyData.tuple.injEq, PyData.list.injEq, List.cons.injEq, Option.some.injEq, and_true, true_and, and_self, Bool.not_true, Bool.not_false, Bool.false_eq_true, Bool.true_eq_false, Bool.true_and, Bool.false_and, Bool.true_or, Bool.false_or, if_true, if_false, reduceIte, reduceCtorEq, not_false_eq_true, ne_eq, true_or, or_true, false_or, or_false, List.map_nil, List.map_cons, Option.toList_some, Option.toList_none, false_and, and_false, Bool.not_eq_true, Bool.or_false, Bool.or_true, Bool.and_true, Bool.and_false]
              refine hN _ ⟨_, rfl, trivial, fun j a b hj ha hb => ?_⟩
              by_cases hjk : j < pre.length
              · exact hall j a b hjk ha hb
              · have : j = k := by simp at hj; omega
                subst this
                rw [List.getElem?_eq_getElem (by omega)] at ha hb
                rw [← Option.some.inj ha, ← Option.some.inj hb]
                exact hs
            | false =>
              simp only [exists_eq_left', exists_eq_left, exists_and_left, R.d.injEq, R.o.injEq, PyData.bool.injEq, PyData.str.injEq, PyData.int.injEq, PyData.tuple.injEq, PyData.list.injEq, List.cons.injEq, Option.some.injEq, and_true, true_and, and_self, Bool.not_true, Bool.not_false, Bool.false_eq_true, Bool.true_eq_false, Bool.true_and, Bool.false_and, Bool.true_or, Bool.false_or, if_true, if_false, reduceIte, reduceCtorEq, not_false_eq_true, ne_eq, true_or, or_true, false_or, or_false, List.map_nil, List.map_cons, Option.toList_some, Option.toList_none, false_and, and_false, Bool.not_eq_true, Bool.or_false, Bool.or_true, Bool.and_true, Bool.and_false]
              have : soD (.tuple xs) (.tuple ms) = false := by
                simp only [soD]
                cases hq : soAll xs ms with
                | false => rfl
                | true =>
                  have := soAll_at hq (List.getElem?_eq_getElem (by omega : k < xs.length)) (List.getElem?_eq_getElem hk2)
                  rw [hs] at this
                  cases this
              rw [this] at h
              exact h
        · rintro _ ⟨e, rfl, ne, hall⟩
          simp only [w__law_so_2, wSeq, wIfS, wRet, wRetN, wNext, wBreak, wCont, wNever, wSet, wAsg, wPar, wExpr, wFor, wApp, wPop, wSetIx, wVar, wBor, wTake, wC, wBin, wNil, wCons, wPrim, wCall, wTup, wLst, wSl, wNone, wSome, wM0, wM1, wB, wAndT, wOrT, wNotT, wAndV, wOrV, wNotV, wIf, wIsi, wIsi2, wNeg, wChain, wSortedSet, X_txl, X_txt, wIt, wIt.rdf, wRng1, wRng2, wLc, wYes, lcS, wipeG, backG, noMut, rd_d, rd_o, rd_b, rdf_d, rdf_o, fz_d, fz_o, fz_b, sl_d, sl_o, ok_d, ok_o, argSl_d, argSl_o, argSl_b, items_l, items_t, items_s, rds, rdF, stOk_eq, ncO_some, nc_v, nc_own, nc_no, stOks, setAll, wG, mutAt, putAt, Sl.mu, Sl.put, argSls, noB, fewB, putB, endP, cellsOf, cellF, List.getElem?_cons_zero, List.getElem?_cons_succ, List.getElem?_nil, List.set_cons_zero, List.set_cons_succ, List.append_eq, List.nil_append, List.cons_append, List.replicate, List.take_succ_cons, List.take_zero, List.take_nil, List.filterMap_cons, List.filterMap_nil, Option.map_some, Option.map_none, List.length_cons, List.length_nil, F_add_i, F_add_s, F_add_l, F_add_t, F_int, F_cmp_i, F_cmp_s, F_in_l, F_in_t, F_in_s, F_ix_l, F_ix_t, F_ix_s, F_sl_l, F_sl_t, F_sl_s, F_len_l, F_len_t, F_len_s, F_toInt, F_toStr, F_toTup_l, F_toTup_t, F_toLst_l, F_toLst_t, F_all, F_any, F_split, F_join_l, F_join_t, F_part, F_start, F_end, F_strip, F_sorted_l, F_sorted_t, N_none, N_str, N_int, N_bool, N_tup, N_lst, S_str, S_none, S_int, S_bool, S_tup, S_lst, I_str, I_none, I_int, I_bool, I_tup, I_lst, B_str, B_none, B_int, B_bool, B_tup, B_lst, T_str, T_none, T_int, T_bool, T_tup, T_lst, L_str, L_none, L_int, L_bool, L_tup, L_lst, D_str, D_none, D_int, D_bool, D_tup, D_lst, N_dic, S_dic, I_dic, B_dic, T_dic, L_dic, D_dic, E_ss, E_ii, E_bb, E_ns, E_is, E_bs, E_nn, isA_str, isA_int, isA_bool, isA_tuple, isA_list, isA_dict, fEq, fNe, fIsN, fNotN, eqv_str, eqv_int, eqv_bool, exists_eq_left', exists_eq_left, exists_and_left, R.d.injEq, R.o.injEq, PyData.bool.injEq, PyData.str.injEq, PyData.int.injEq, PyData.tuple.injEq, PyData.list.injEq, List.cons.injEq, Option.some.injEq, and_true, true_and, and_self, Bool.not_true, Bool.not_false, Bool.false_eq_true, Bool.true_eq_false, Bool.true_and, Bool.false_and, Bool.true_or, Bool.false_or, if_true, if_false, reduceIte, reduceCtorEq, not_false_eq_true, ne_eq, true_or, or_true, false_or, or_false, List.map_nil, List.map_cons, Option.toList_some, Option.toList_none, false_and, and_false, Bool.not_eq_true, Bool.or_false, Bool.or_true, Bool.and_true, Bool.and_false]
          have : soD (.tuple xs) (.tuple ms) = true := by
            simp only [soD]
            exact soAll_of hl fun k a b ha hb => hall k a b (by rw [List.length_range]; exact (List.getElem?_eq_some_iff.mp hb).1) ha hb
          rw [this] at h
          exact h
      · have e1 : (((xs.length : Nat) : Int) == ((ms.length : Nat) : Int)) = false := by
          rw [beq_eq_false_iff_ne]; omega
        simp only [e1, exists_eq_left', exists_eq_left, exists_and_left, R.d.injEq, R.o.injEq, PyData.bool.injEq, PyData.str.injEq, PyData.int.injEq, PyData.tuple.injEq, PyData.list.injEq, List.cons.injEq, Option.some.injEq, and_true, true_and, and_self, Bool.not_true, Bool.not_false, Bool.false_eq_true, Bool.true_eq_false, Bool.true_and, Bool.false_and, Bool.true_or, Bool.false_or, if_true, if_false, reduceIte, reduceCtorEq, not_false_eq_true, ne_eq, true_or, or_true, false_or, or_false, List.map_nil, List.map_cons, Option.toList_some, Option.toList_none, false_and, and_false, Bool.not_eq_true, Bool.or_false, Bool.or_true, Bool.and_true, Bool.and_false]
        have : soD (.tuple xs) (.tuple ms) = false := by
          simp only [soD]
          cases hq : soAll xs ms with
          | false => rfl
          | true => exact absurd (soAll_len hq) hl
        rw [this] at h
        exact h
    | _ =>
      rw [h0 _ (fun l z => by cases z)] at h
      simp only [wSeq, wIfS, wRet, wRetN, wNext, wBreak, wCont, wNever, wSet, wAsg, wPar, wExpr, wFor, wApp, wPop, wSetIx, wVar, wBor, wTake, wC, wBin, wNil, wCons, wPrim, wCall, wTup, wLst, wSl, wNone, wSome, wM0, wM1, wB, wAndT, wOrT, wNotT, wAndV, wOrV, wNotV, wIf, wIsi, wIsi2, wNeg, wChain, wSortedSet, X_txl, X_txt, wIt, wIt.rdf, wRng1, wRng2, wLc, wYes, lcS, wipeG, backG, noMut, rd_d, rd_o, rd_b, rdf_d, rdf_o, fz_d, fz_o, fz_b, sl_d, sl_o, ok_d, ok_o, argSl_d, argSl_o, argSl_b, items_l, items_t, items_s, rds, rdF, stOk_eq, ncO_some, nc_v, nc_own, nc_no, stOks, setAll, wG, mutAt, putAt, Sl.mu, Sl.put, argSls, noB, fewB, putB, endP, cellsOf, cellF, List.getElem?_cons_zero, List.getElem?_cons_succ, List.getElem?_nil, List.set_cons_zero, List.set_cons_succ, List.append_eq, List.nil_append, List.cons_append, List.replicate, List.take_succ_cons, List.take_zero, List.take_nil, List.filterMap_cons, List.filterMap_nil, Option.map_some, Option.map_none, List.length_cons, List.length_nil, F_add_i, F_add_s, F_add_l, F_add_t, F_int, F_cmp_i, F_cmp_s, F_in_l, F_in_t, F_in_s, F_ix_l, F_ix_t, F_ix_s, F_sl_l, F_sl_t, F_sl_s, F_len_l, F_len_t, F_len_s, F_toInt, F_toStr, F_toTup_l, F_toTup_t, F_toLst_l, F_toLst_t, F_all, F_any, F_split, F_join_l, F_join_t, F_part, F_start, F_end, F_strip, F_sorted_l, F_sorted_t, N_none, N_str, N_int, N_bool, N_tup, N_lst, S_str, S_none, S_int, S_bool, S_tup, S_lst, I_str, I_none, I_int, I_bool, I_tup, I_lst, B_str, B_none, B_int, B_bool, B_tup, B_lst, T_str, T_none, T_int, T_bool, T_tup, T_lst, L_str, L_none, L_int, L_bool, L_tup, L_lst, D_str, D_none, D_int, D_bool, D_tup, D_lst, N_dic, S_dic, I_dic, B_dic, T_dic, L_dic, D_dic, E_ss, E_ii, E_bb, E_ns, E_is, E_bs, E_nn, isA_str, isA_int, isA_bool, isA_tuple, isA_list, isA_dict, fEq, fNe, fIsN, fNotN, eqv_str, eqv_int, eqv_bool, exists_eq_left', exists_eq_left, exists_and_left, R.d.injEq, R.o.injEq, PyData.bool.injEq, PyData.str.injEq, PyData.int.injEq, PyData.tuple.injEq, PyData.list.injEq, List.cons.injEq, Option.some.injEq, and_true, true_and, and_self, Bool.not_true, Bool.not_false, Bool.false_eq_true, Bool.true_eq_false, Bool.true_and, Bool.false_and, Bool.true_or, Bool.false_or, if_true, if_false, reduceIte, reduceCtorEq, not_false_eq_true, ne_eq, true_or, or_true, false_or, or_false, List.map_nil, List.map_cons, Option.toList_some, Option.toList_none, false_and, and_false, Bool.not_eq_true, Bool.or_false, Bool.or_true, Bool.and_true, Bool.and_false]
      exact h
  | bool b =>
    simp only [w__law_so, w__law_so_7, w__law_so_6, wSeq, wIfS, wRet, wRetN, wNext, wBreak, wCont, wNever, wSet, wAsg, wPar, wExpr, wFor, wApp, wPop, wSetIx, wVar, wBor, wTake, wC, wBin, wNil, wCons, wPrim, wCall, wTup, wLst, wSl, wNone, wSome, wM0, wM1, wB, wAndT, wOrT, wNotT, wAndV, wOrV, wNotV, wIf, wIsi, wIsi2, wNeg, wChain, wSortedSet, X_txl, X_txt, wIt, wIt.rdf, wRng1, wRng2, wLc, wYes, lcS, wipeG, backG, noMut, rd_d, rd_o, rd_b, rdf_d, rdf_o, fz_d, fz_o, fz_b, sl_d, sl_o, ok_d, ok_o, argSl_d, argSl_o, argSl_b, items_l, items_t, items_s, rds, rdF, stOk_eq, ncO_some, nc_v, nc_own, nc_no, stOks, setAll, wG, mutAt, putAt, Sl.mu, Sl.put, argSls, noB, fewB, putB, endP, cellsOf, cellF, List.getElem?_cons_zero, List.getElem?_cons_succ, List.getElem?_nil, List.set_cons_zero, List.set_cons_succ, List.append_eq, List.nil_append, List.cons_append, List.replicate, List.take_succ_cons, List.take_zero, List.take_nil, List.filterMap_cons, List.filterMap_nil, Option.map_some, Option.map_none, List.length_cons, List.length_nil, F_add_i, F_add_s, F_add_l, F_add_t, F_int, F_cmp_i, F_cmp_s, F_in_l, F_in_t, F_in_s, F_ix_l, F_ix_t, F_ix_s, F_sl_l, F_sl_t, F_sl_s, F_len_l, F_len_t, F_len_s, F_toInt, F_toStr, F_toTup_l, F_toTup_t, F_toLst_l, F_toLst_t, F_all, F_any, F_split, F_join_l, F_join_t, F_part, F_start, F_end, F_strip, F_sorted_l, F_sorted_t, N_none, N_str, N_int, N_bool, N_tup, N_lst, S_str, S_none, S_int, S_bool, S_tup, S_lst, I_str, I_none, I_int, I_bool, I_tup, I_lst, B_str, B_none, B_int, B_bool, B_tup, B_lst, T_str, T_none, T_int, T_bool, T_tup, T_lst, L_str, L_none, L_int, L_bool, L_tup, L_lst, D_str, D_none, D_int, D_bool, D_tup, D_lst, N_dic, S_dic, I_dic, B_dic, T_dic, L_dic, D_dic, E_ss, E_ii, E_bb, E_ns, E_is, E_bs, E_nn, isA_str, isA_int, isA_bool, isA_tuple, isA_list, isA_dict, fEq, fNe, fIsN, fNotN, eqv_str, eqv_int, eqv_bool, exists_eq_left', exists_eq_left, exists_and_left, R.d.injEq, R.o.injEq, PyData.bool.injEq, PyData.str.injEq, PyData.int.injEq, PyData.tuple.injEq, PyData.list.injEq, List.cons.injEq, Option.some.injEq, and_true, true_and, and_self, Bool.not_true, Bool.not_false, Bool.false_eq_true, Bool.true_eq_false, Bool.true_and, Bool.false_and, Bool.true_or, Bool.false_or, if_true, if_false, reduceIte, reduceCtorEq, not_false_eq_true, ne_eq, true_or, or_true, false_or, or_false, List.map_nil, List.map_cons, Option.toList_some, Option.toList_none, false_and, and_false, Bool.not_eq_true, Bool.or_false, Bool.or_true, Bool.and_true, Bool.and_false]
    cases x <;> simp only [wSeq, wIfS, wRet, wRetN, wNext, wBreak, wCont, wNever, wSet, wAsg, wPar, wExpr, wFor, wApp, wPop, wSetIx, wVar, wBor, wTake, wC, wBin, wNil, wCons, wPrim, wCall, wTup, wLst, wSl, wNone, wSome, wM0, wM1, wB, wAndT, wOrT, wNotT, wAndV, wOrV, wNotV, wIf, wIsi, wIsi2, wNeg, wChain, wSortedSet, X_txl, X_txt, wIt, wIt.rdf, wRng1, wRng2, wLc, wYes, lcS, wipeG, backG, noMut, rd_d, rd_o, rd_b, rdf_d, rdf_o, fz_d, fz_o, fz_b, sl_d, sl_o, ok_d, ok_o, argSl_d, argSl_o, argSl_b, items_l, items_t, items_s, rds, rdF, stOk_eq, ncO_some, nc_v, nc_own, nc_no, stOks, setAll, wG, mutAt, putAt, Sl.mu, Sl.put, argSls, noB, fewB, putB, endP, cellsOf, cellF, List.getElem?_cons_zero, List.getElem?_cons_succ, List.getElem?_nil, List.set_cons_zero, List.set_cons_succ, List.append_eq, List.nil_append, List.cons_append, List.replicate, List.take_succ_cons, List.take_zero, List.take_nil, List.filterMap_cons, List.filterMap_nil, Option.map_some, Option.map_none, List.length_cons, List.length_nil, F_add_i, F_add_s, F_add_l, F_add_t, F_int, F_cmp_i, F_cmp_s, F_in_l, F_in_t, F_in_s, F_ix_l, F_ix_t, F_ix_s, F_sl_l, F_sl_t, F_sl_s, F_len_l, F_len_t, F_len_s, F_toInt, F_toStr, F_toTup_l, F_toTup_t, F_toLst_l, F_toLst_t, F_all, F_any, F_split, F_join_l, F_join_t, F_part, F_start, F_end, F_strip, F_sorted_l, F_sorted_t, N_none, N_str, N_int, N_bool, N_tup, N_lst, S_str, S_none, S_int, S_bool, S_tup, S_lst, I_str, I_none, I_int, I_bool, I_tup, I_lst, B_str, B_none, B_int, B_bool, B_tup, B_lst, T_str, T_none, T_int, T_bool, T_tup, T_lst, L_str, L_none, L_int, L_bool, L_tup, L_lst, D_str, D_none, D_int, D_bool, D_tup, D_lst, N_dic, S_dic, I_dic, B_dic, T_dic, L_dic, D_dic, E_ss, E_ii, E_bb, E_ns, E_is, E_bs, E_nn, isA_str, isA_int, isA_bool, isA_tuple, isA_list, isA_dict, fEq, fNe, fIsN, fNotN, eqv_str, eqv_int, eqv_bool, exists_eq_left', exists_eq_left, exists_and_left, R.d.injEq, R.o.injEq, PyData.bool.injEq, PyData.str.injEq, PyData.int.injEq, PyData.tuple.injEq, PyData.list.injEq, List.cons.injEq, Option.some.injEq, and_true, true_and, and_self, Bool.not_true, Bool.not_false, Bool.false_eq_true, Bool.true_eq_false, Bool.true_and, Bool.false_and, Bool.true_or, Bool.false_or, if_true, if_false, reduceIte, reduceCtorEq, not_false_eq_true, ne_eq, true_or, or_true, false_or, or_false, List.map_nil, List.map_cons, Option.toList_some, Option.toList_none, false_and, and_false, Bool.not_eq_true, Bool.or_false, Bool.or_true, Bool.and_true, Bool.and_false] <;> simpa only [soD] using h
  | int i =>
    simp only [w__law_so, w__law_so_7, w__law_so_6, w__law_so_5, wSeq, wIfS, wRet, wRetN, wNext, wBreak, wCont, wNever, wSet, wAsg, wPar, wExpr, wFor, wApp, wPop, wSetIx, wVar, wBor, wTake, wC, wBin, wNil, wCons, wPrim, wCall, wTup, wLst, wSl, wNone, wSome, wM0, wM1, wB, wAndT, wOrT, wNotT, wAndV, wOrV, wNotV, wIf, wIsi, wIsi2, wNeg, wChain, wSortedSet, X_txl, X_txt, wIt, wIt.rdf, wRng1, wRng2, wLc, wYes, lcS, wipeG, backG, noMut, rd_d, rd_o, rd_b, rdf_d, rdf_o, fz_d, fz_o, fz_b, sl_d, sl_o, ok_d, ok_o, argSl_d, argSl_o, argSl_b, items_l, items_t, items_s, rds, rdF, stOk_eq, ncO_some, nc_v, nc_own, nc_no, stOks, setAll, wG, mutAt, putAt, Sl.mu, Sl.put, argSls, noB, fewB, putB, endP, cellsOf, cellF, List.getElem?_cons_zero, List.getElem?_cons_succ, List.getElem?_nil, List.set_cons_zero, List.set_cons_succ, List.append_eq, List.nil_append, List.cons_append, List.replicate, List.take_succ_cons, List.take_zero, List.take_nil, List.filterMap_cons, List.filterMap_nil, Option.map_some, Option.map_none, List.length_cons, List.length_nil, F_add_i, F_add_s, F_add_l, F_add_t, F_int, F_cmp_i, F_cmp_s, F_in_l, F_in_t, F_in_s, F_ix_l, F_ix_t, F_ix_s, F_sl_l, F_sl_t, F_sl_s, F_len_l, F_len_t, F_len_s, F_toInt, F_toStr, F_toTup_l, F_toTup_t, F_toLst_l, F_toLst_t, F_all, F_any, F_split, F_join_l, F_join_t, F_part, F_start, F_end, F_strip, F_sorted_l, F_sorted_t, N_none, N_str, N_int, N_bool, N_tup, N_lst, S_str, S_none, S_int, S_bool, S_tup, S_lst, I_str, I_none, I_int, I_bool, I_tup, I_lst, B_str, B_none, B_int, B_bool, B_tup, B_lst, T_str, T_none, T_int, T_bool, T_tup, T_lst, L_str, L_none, L_int, L_bool, L_tup, L_lst, D_str, D_none, D_int, D_bool, D_tup, D_lst, N_dic, S_dic, I_dic, B_dic, T_dic, L_dic, D_dic, E_ss, E_ii, E_bb, E_ns, E_is, E_bs, E_nn, isA_str, isA_int, isA_bool, isA_tuple, isA_list, isA_dict, fEq, fNe, fIsN, fNotN, eqv_str, eqv_int, eqv_bool, exists_eq_left', exists_eq_left, exists_and_left, R.d.injEq, R.o.injEq, PyData.bool.injEq, PyData.str.injEq, PyData.int.injEq, PyData.tuple.injEq, PyData.list.injEq, List.cons.injEq, Option.some.injEq, and_true, true_and, and_self, Bool.not_true, Bool.not_false, Bool.false_eq_true, Bool.true_eq_false, Bool.true_and, Bool.false_and, Bool.true_or, Bool.false_or, if_true, if_false, reduceIte, reduceCtorEq, not_false_eq_true, ne_eq, true_or, or_true, false_or, or_false, List.map_nil, List.map_cons, Option.toList_some, Option.toList_none, false_and, and_false, Bool.not_eq_true, Bool.or_false, Bool.or_true, Bool.and_true, Bool.and_false]
    cases x <;> simp only [wSeq, wIfS, wRet, wRetN, wNext, wBreak, wCont, wNever, wSet, wAsg, wPar, wExpr, wFor, wApp, wPop, wSetIx, wVar, wBor, wTake, wC, wBin, wNil, wCons, wPrim, wCall, wTup, wLst, wSl, wNone, wSome, wM0, wM1, wB, wAndT, wOrT, wNotT, wAndV, wOrV, wNotV, wIf, wIsi, wIsi2, wNeg, wChain, wSortedSet, X_txl, X_txt, wIt, wIt.rdf, wRng1, wRng2, wLc, wYes, lcS, wipeG, backG, noMut, rd_d, rd_o, rd_b, rdf_d, rdf_o, fz_d, fz_o, fz_b, sl_d, sl_o, ok_d, ok_o, argSl_d, argSl_o, argSl_b, items_l, items_t, items_s, rds, rdF, stOk_eq, ncO_some, nc_v, nc_own, nc_no, stOks, setAll, wG, mutAt, putAt, Sl.mu, Sl.put, argSls, noB, fewB, putB, endP, cellsOf, cellF, List.getElem?_cons_zero, List.getElem?_cons_succ, List.getElem?_nil, List.set_cons_zero, List.set_cons_succ, List.append_eq, List.nil_append, List.cons_append, List.replicate, List.take_succ_cons, List.take_zero, List.take_nil, List.filterMap_cons, List.filterMap_nil, Option.map_some, Option.map_none, List.length_cons, List.length_nil, F_add_i, F_add_s, F_add_l, F_add_t, F_int, F_cmp_i, F_cmp_s, F_in_l, F_in_t, F_in_s, F_ix_l, F_ix_t, F_ix_s, F_sl_l, F_sl_t, F_sl_s, F_len_l, F_len_t, F_len_s, F_toInt, F_toStr, F_toTup_l, F_toTup_t, F_toLst_l, F_toLst_t, F_all, F_any, F_split, F_join_l, F_join_t, F_part, F_start, F_end, F_strip, F_sorted_l, F_sorted_t, N_none, N_str, N_int, N_bool, N_tup, N_lst, S_str, S_none, S_int, S_bool, S_tup, S_lst, I_str, I_none, I_int, I_bool, I_tup, I_lst, B_str, B_none, B_int, B_bool, B_tup, B_lst, T_str, T_none, T_int, T_bool, T_tup, T_lst, L_str, L_none, L_int, L_bool, L_tup, L_lst, D_str, D_none, D_int, D_bool, D_tup, D_lst, N_dic, S_dic, I_dic, B_dic, T_dic, L_dic, D_dic, E_ss, E_ii, E_bb, E_ns, E_is, E_bs, E_nn, isA_str, isA_int, isA_bool, isA_tuple, isA_list, isA_dict, fEq, fNe, fIsN, fNotN, eqv_str, eqv_int, eqv_bool, exists_eq_left', exists_eq_left, exists_and_left, R.d.injEq, R.o.injEq, PyData.bool.injEq, PyData.str.injEq, PyData.int.injEq, PyData.tuple.injEq, PyData.list.injEq, List.cons.injEq, Option.some.injEq, and_true, true_and, and_self, Bool.not_true, Bool.not_false, Bool.false_eq_true, Bool.true_eq_false, Bool.true_and, Bool.false_and, Bool.true_or, Bool.false_or, if_true, if_false, reduceIte, reduceCtorEq, not_false_eq_true, ne_eq, true_or, or_true, false_or, or_false, List.map_nil, List.map_cons, Option.toList_some, Option.toList_none, false_and, and_false, Bool.not_eq_true, Bool.or_false, Bool.or_true, Bool.and_true, Bool.and_false] <;> simpa only [soD] using h
  | str s =>
    simp only [w__law_so, w__law_so_7, w__law_so_6, w__law_so_5, w__law_so_4, wSeq, wIfS, wRet, wRetN, wNext, wBreak, wCont, wNever, wSet, wAsg, wPar, wExpr, wFor, wApp, wPop, wSetIx, wVar, wBor, wTake, wC, wBin, wNil, wCons, wPrim, wCall, wTup, wLst, wSl, wNone, wSome, wM0, wM1, wB, wAndT, wOrT, wNotT, wAndV, wOrV, wNotV, wIf, wIsi, wIsi2, wNeg, wChain, wSortedSet, X_txl, X_txt, wIt, wIt.rdf, wRng1, wRng2, wLc, wYes, lcS, wipeG, backG, noMut, rd_d, rd_o, rd_b, rdf_d, rdf_o, fz_d, fz_o, fz_b, sl_d, sl_o, ok_d, ok_o, argSl_d, argSl_o, argSl_b, items_l, items_t, items_s, rds, rdF, stOk_eq, ncO_some, nc_v, nc_own, nc_no, stOks, setAll, wG, mutAt, putAt, Sl.mu, Sl.put, argSls, noB, fewB, putB, endP, cellsOf, cellF, List.getElem?_cons_zero, List.getElem?_cons_succ, List.getElem?_nil, List.set_cons_zero, List.set_cons_succ, List.append_eq, List.nil_append, List.cons_append, List.replicate, List.take_succ_cons, List.take_zero, List.take_nil, List.filterMap_cons, List.filterMap_nil, Option.map_some, Option.map_none, List.length_cons, List.length_nil, F_add_i, F_add_s, F_add_l, F_add_t, F_int, F_cmp_i, F_cmp_s, F_in_l, F_in_t, F_in_s, F_ix_l, F_ix_t, F_ix_s, F_sl_l, F_sl_t, F_sl_s, F_len_l, F_len_t, F_len_s, F_toInt, F_toStr, F_toTup_l, F_toTup_t, F_toLst_l, F_toLst_t, F_all, F_any, F_split, F_join_l, F_join_t, F_part, F_start, F_end, F_strip, F_sorted_l, F_sorted_t, N_none, N_str, N_int, N_bool, N_tup, N_lst, S_str, S_none, S_int, S_bool, S_tup, S_lst, I_str, I_none, I_int, I_bool, I_tup, I_lst, B_str, B_none, B_int, B_bool, B_tup, B_lst, T_str, T_none, T_int, T_bool, T_tup, T_lst, L_str, L_none, L_int, L_bool, L_tup, L_lst, D_str, D_none, D_int, D_bool, D_tup, D_lst, N_dic, S_dic, I_dic, B_dic, T_dic, L_dic, D_dic, E_ss, E_ii, E_bb, E_ns, E_is, E_bs, E_nn, isA_str, isA_int, isA_bool, isA_tuple, isA_list, isA_dict, fEq, fNe, fIsN, fNotN, eqv_str, eqv_int, eqv_bool, exists_eq_left', exists_eq_left, exists_and_left, R.d.injEq, R.o.injEq, PyData.bool.injEq, PyData.str.injEq, PyData.int.injEq, PyData.tuple.injEq, PyData.list.injEq, List.cons.injEq, Option.some.injEq, and_true, true_and, and_self, Bool.not_true, Bool.not_false, Bool.false_eq_true, Bool.true_eq_false, Bool.true_and, Bool.false_and, Bool.true_or, Bool.false_or, if_true, if_false, reduceIte, reduceCtorEq, not_false_eq_true, ne_eq, true_or, or_true, false_or, or_false, List.map_nil, List.map_cons, Option.toList_some, Option.toList_none, false_and, and_false, Bool.not_eq_true, Bool.or_false, Bool.or_true, Bool.and_true, Bool.and_false]
    cases x <;> simp only [wSeq, wIfS, wRet, wRetN, wNext, wBreak, wCont, wNever, wSet, wAsg, wPar, wExpr, wFor, wApp, wPop, wSetIx, wVar, wBor, wTake, wC, wBin, wNil, wCons, wPrim, wCall, wTup, wLst, wSl, wNone, wSome, wM0, wM1, wB, wAndT, wOrT, wNotT, wAndV, wOrV, wNotV, wIf, wIsi, wIsi2, wNeg, wChain, wSortedSet, X_txl, X_txt, wIt, wIt.rdf, wRng1, wRng2, wLc, wYes, lcS, wipeG, backG, noMut, rd_d, rd_o, rd_b, rdf_d, rdf_o, fz_d, fz_o, fz_b, sl_d, sl_o, ok_d, ok_o, argSl_d, argSl_o, argSl_b, items_l, items_t, items_s, rds, rdF, stOk_eq, ncO_some, nc_v, nc_own, nc_no, stOks, setAll, wG, mutAt, putAt, Sl.mu, Sl.put, argSls, noB, fewB, putB, endP, cellsOf, cellF, List.getElem?_cons_zero, List.getElem?_cons_succ, List.getElem?_nil, List.set_cons_zero, List.set_cons_succ, List.append_eq, List.nil_append, List.cons_append, List.replicate, List.take_succ_cons, List.take_zero, List.take_nil, List.filterMap_cons, List.filterMap_nil, Option.map_some, Option.map_none, List.length_cons, List.length_nil, F_add_i, F_add_s, F_add_l, F_add_t, F_int, F_cmp_i, F_cmp_s, F_in_l, F_in_t, F_in_s, F_ix_l, F_ix_t, F_ix_s, F_sl_l, F_sl_t, F_sl_s, F_len_l, F_len_t, F_len_s, F_toInt, F_toStr, F_toTup_l, F_toTup_t, F_toLst_l, F_toLst_t, F_all, F_any, F_split, F_join_l, F_join_t, F_part, F_start, F_end, F_strip, F_sorted_l, F_sorted_t, N_none, N_str, N_int, N_bool, N_tup, N_lst, S_str, S_none, S_int, S_bool, S_tup, S_lst, I_str, I_none, I_int, I_bool, I_tup, I_lst, B_str, B_none, B_int, B_bool, B_tup, B_lst, T_str, T_none, T_int, T_bool, T_tup, T_lst, L_str, L_none, L_int, L_bool, L_tup, L_lst, D_str, D_none, D_int, D_bool, D_tup, D_lst, N_dic, S_dic, I_dic, B_dic, T_dic, L_dic, D_dic, E_ss, E_ii, E_bb, E_ns, E_is, E_bs, E_nn, isA_str, isA_int, isA_bool, isA_tuple, isA_list, isA_dict, fEq, fNe, fIsN, fNotN, eqv_str, eqv_int, eqv_bool, exists_eq_left', exists_eq_left, exists_and_left, R.d.injEq, R.o.injEq, PyData.bool.injEq, PyData.str.injEq, PyData.int.injEq, PyData.tuple.injEq, PyData.list.injEq, List.cons.injEq, Option.some.injEq, and_true, true_and, and_self, Bool.not_true, Bool.not_false, Bool.false_eq_true, Bool.true_eq_false, Bool.true_and, Bool.false_and, Bool.true_or, Bool.false_or, if_true, if_false, reduceIte, reduceCtorEq, not_false_eq_true, ne_eq, true_or, or_true, false_or, or_false, List.map_nil, List.map_cons, Option.toList_some, Option.toList_none, false_and, and_false, Bool.not_eq_true, Bool.or_false, Bool.or_true, Bool.and_true, Bool.and_false] <;> simpa only [soD] using h
  | list l =>
    simp only [w__law_so, w__law_so_7, w__law_so_6, w__law_so_5, w__law_so_4, wSeq, wIfS, wRet, wRetN, wNext, wBreak, wCont, wNever, wSet, wAsg, wPar, wExpr, wFor, wApp, wPop, wSetIx, wVar, wBor, wTake, wC, wBin, wNil, wCons, wPrim, wCall, wTup, wLst, wSl, wNone, wSome, wM0, wM1, wB, wAndT, wOrT, wNotT, wAndV, wOrV, wNotV, wIf, wIsi, wIsi2, wNeg, wChain, wSortedSet, X_txl, X_txt, wIt, wIt.rdf, wRng1, wRng2, wLc, wYes, lcS, wipeG, backG, noMut, rd_d, rd_o, rd_b, rdf_d, rdf_o, fz_d, fz_o, fz_b, sl_d, sl_o, ok_d, ok_o, argSl_d, argSl_o, argSl_b, items_l, items_t, items_s, rds, rdF, stOk_eq, ncO_some, nc_v, nc_own, nc_no, stOks, setAll, wG, mutAt, putAt, Sl.mu, Sl.put, argSls, noB, fewB, putB, endP, cellsOf, cellF, List.getElem?_cons_zero, List.getElem?_cons_succ, List.getElem?_nil, List.set_cons_zero, List.set_cons_succ, List.append_eq, List.nil_append, List.cons_append, List.replicate, List.take_succ_cons, List.take_zero, List.take_nil, List.filterMap_cons, List.filterMap_nil, Option.map_some, Option.map_none, List.length_cons, List.length_nil, F_add_i, F_add_s, F_add_l, F_add_t, F_int, F_cmp_i, F_cmp_s, F_in_l, F_in_t, F_in_s, F_ix_l, F_ix_t, F_ix_s, F_sl_l, F_sl_t, F_sl_s, F_len_l, F_len_t, F_len_s, F_toInt, F_toStr, F_toTup_l, F_toTup_t, F_toLst_l, F_toLst_t, F_all, F_any, F_split, F_join_l, F_join_t, F_part, F_start, F_end, F_strip, F_sorted_l, F_sorted_t, N_none, N_str, N_int, N_bool, N_tup, N_lst, S_str, S_none, S_int, S_bool, S_tup, S_lst, I_str, I_none, I_int, I_bool, I_tup, I_lst, B_str, B_none, B_int, B_bool, B_tup, B_lst, T_str, T_none, T_int, T_bool, T_tup, T_lst, L_str, L_none, L_int, L_bool, L_tup, L_lst, D_str, D_none, D_int, D_bool, D_tup, D_lst, N_dic, S_dic, I_dic, B_dic, T_dic, L_dic, D_dic, E_ss, E_ii, E_bb, E_ns, E_is, E_bs, E_nn, isA_str, isA_int, isA_bool, isA_tuple, isA_list, isA_dict, fEq, fNe, fIsN, fNotN, eqv_str, eqv_int, eqv_bool, exists_eq_left', exists_eq_left, exists_and_left, R.d.injEq, R.o.injEq, PyData.bool.injEq, PyData.str.injEq, PyData.int.injEq, PyData.tuple.injEq, PyData.list.injEq, List.cons.injEq, Option.some.injEq, and_true, true_and, and_self, Bool.not_true, Bool.not_false, Bool.false_eq_true, Bool.true_eq_false, Bool.true_and, Bool.false_and, Bool.true_or, Bool.false_or, if_true, if_false, reduceIte, reduceCtorEq, not_false_eq_true, ne_eq, true_or, or_true, false_or, or_false, List.map_nil, List.map_cons, Option.toList_some, Option.toList_none, false_and, and_false, Bool.not_eq_true, Bool.or_false, Bool.or_true, Bool.and_true, Bool.and_false]
    cases x <;> simp only [wSeq, wIfS, wRet, wRetN, wNext, wBreak, wCont, wNever, wSet, wAsg, wPar, wExpr, wFor, wApp, wPop, wSetIx, wVar, wBor, wTake, wC, wBin, wNil, wCons, wPrim, wCall, wTup, wLst, wSl, wNone, wSome, wM0, wM1, wB, wAndT, wOrT, wNotT, wAndV, wOrV, wNotV, wIf, wIsi, wIsi2, wNeg, wChain, wSortedSet, X_txl, X_txt, wIt, wIt.rdf, wRng1, wRng2, wLc, wYes, lcS, wipeG, backG, noMut, rd_d, rd_o, rd_b, rdf_d, rdf_o, fz_d, fz_o, fz_b, sl_d, sl_o, ok_d, ok_o, argSl_d, argSl_o, argSl_b, items_l, items_t, items_s, rds, rdF, stOk_eq, ncO_some, nc_v, nc_own, nc_no, stOks, setAll, wG, mutAt, putAt, Sl.mu, Sl.put, argSls, noB, fewB, putB, endP, cellsOf, cellF, List.getElem?_cons_zero, List.getElem?_cons_succ, List.getElem?_nil, List.set_cons_zero, List.set_cons_succ, List.append_eq, List.nil_append, List.cons_append, List.replicate, List.take_succ_cons, List.take_zero, List.take_nil, List.filterMap_cons, List.filterMap_nil, Option.map_some, Option.map_none, List.length_cons, List.length_nil, F_add_i, F_add_s, F_add_l, F_add_t, F_int, F_cmp_i, F_cmp_s, F_in_l, F_in_t, F_in_s, F_ix_l, F_ix_t, F_ix_s, F_sl_l, F_sl_t, F_sl_s, F_len_l, F_len_t, F_len_s, F_toInt, F_toStr, F_toTup_l, F_toTup_t, F_toLst_l, F_toLst_t, F_all, F_any, F_split, F_join_l, F_join_t, F_part, F_start, F_end, F_strip, F_sorted_l, F_sorted_t, N_none, N_str, N_int, N_bool, N_tup, N_lst, S_str, S_none, S_int, S_bool, S_tup, S_lst, I_str, I_none, I_int, I_bool, I_tup, I_lst, B_str, B_none, B_int, B_bool, B_tup, B_lst, T_str, T_none, T_int, T_bool, T_tup, T_lst, L_str, L_none, L_int, L_bool, L_tup, L_lst, D_str, D_none, D_int, D_bool, D_tup, D_lst, N_dic, S_dic, I_dic, B_dic, T_dic, L_dic, D_dic, E_ss, E_ii, E_bb, E_ns, E_is, E_bs, E_nn, isA_str, isA_int, isA_bool, isA_tuple, isA_list, isA_dict, fEq, fNe, fIsN, fNotN, eqv_str, eqv_int, eqv_bool, exists_eq_left', exists_eq_left, exists_and_left, R.d.injEq, R.o.injEq, PyData.bool.injEq, PyData.str.injEq, PyData.int.injEq, PyData.tuple.injEq, PyData.list.injEq, List.cons.injEq, Option.some.injEq, and_true, true_and, and_self, Bool.not_true, Bool.not_false, Bool.false_eq_true, Bool.true_eq_false, Bool.true_and, Bool.false_and, Bool.true_or, Bool.false_or, if_true, if_false, reduceIte, reduceCtorEq, not_false_eq_true, ne_eq, true_or, or_true, false_or, or_false, List.map_nil, List.map_cons, Option.toList_some, Option.toList_none, false_and, and_false, Bool.not_eq_true, Bool.or_false, Bool.or_true, Bool.and_true, Bool.and_false] <;> simpa only [soD] using h
  | dict l =>
    simp only [w__law_so, w__law_so_7, w__law_so_6, w__law_so_5, w__law_so_4, wSeq, wIfS, wRet, wRetN, wNext, wBreak, wCont, wNever, wSet, wAsg, wPar, wExpr, wFor, wApp, wPop, wSetIx, wVar, wBor, wTake, wC, wBin, wNil, wCons, wPrim, wCall, wTup, wLst, wSl, wNone, wSome, wM0, wM1, wB, wAndT, wOrT, wNotT, wAndV, wOrV, wNotV, wIf, wIsi, wIsi2, wNeg, wChain, wSortedSet, X_txl, X_txt, wIt, wIt.rdf, wRng1, wRng2, wLc, wYes, lcS, wipeG, backG, noMut, rd_d, rd_o, rd_b, rdf_d, rdf_o, fz_d, fz_o, fz_b, sl_d, sl_o, ok_d, ok_o, argSl_d, argSl_o, argSl_b, items_l, items_t, items_s, rds, rdF, stOk_eq, ncO_some, nc_v, nc_own, nc_no, stOks, setAll, wG, mutAt, putAt, Sl.mu, Sl.put, argSls, noB, fewB, putB, endP, cellsOf, cellF, List.getElem?_cons_zero, List.getElem?_cons_succ, List.getElem?_nil, List.set_cons_zero, List.set_cons_succ, List.append_eq, List.nil_append, List.cons_append, List.replicate, List.take_succ_cons, List.take_zero, List.take_nil, List.filterMap_cons, List.filterMap_nil, Option.map_some, Option.map_none, List.length_cons, List.length_nil, F_add_i, F_add_s, F_add_l, F_add_t, F_int, F_cmp_i, F_cmp_s, F_in_l, F_in_t, F_in_s, F_ix_l, F_ix_t, F_ix_s, F_sl_l, F_sl_t, F_sl_s, F_len_l, F_len_t, F_len_s, F_toInt, F_toStr, F_toTup_l, F_toTup_t, F_toLst_l, F_toLst_t, F_all, F_any, F_split, F_join_l, F_join_t, F_part, F_start, F_end, F_strip, F_sorted_l, F_sorted_t, N_none, N_str, N_int, N_bool, N_tup, N_lst, S_str, S_none, S_int, S_bool, S_tup, S_lst, I_str, I_none, I_int, I_bool, I_tup, I_lst, B_str, B_none, B_int, B_bool, B_tup, B_lst, T_str, T_none, T_int, T_bool, T_tup, T_lst, L_str, L_none, L_int, L_bool, L_tup, L_lst, D_str, D_none, D_int, D_bool, D_tup, D_lst, N_dic, S_dic, I_dic, B_dic, T_dic, L_dic, D_dic, E_ss, E_ii, E_bb, E_ns, E_is, E_bs, E_nn, isA_str, isA_int, isA_bool, isA_tuple, isA_list, isA_dict, fEq, fNe, fIsN, fNotN, eqv_str, eqv_int, eqv_bool, exists_eq_left', exists_eq_left, exists_and_left, R.d.injEq, R.o.injEq, PyData.bool.injEq, PyData.str.injEq, PyData.int.injEq, PyData.tuple.injEq, PyData.list.injEq, List.cons.injEq, Option.some.injEq, and_true, true_and, and_self, Bool.not_true, Bool.not_false, Bool.false_eq_true, Bool.true_eq_false, Bool.true_and, Bool.false_and, Bool.true_or, Bool.false_or, if_true, if_false, reduceIte, reduceCtorEq, not_false_eq_true, ne_eq, true_or, or_true, false_or, or_false, List.map_nil, List.map_cons, Option.toList_some, Option.toList_none, false_and, and_false, Bool.not_eq_true, Bool.or_false, Bool.or_true, Bool.and_true, Bool.and_false]
    cases x <;> simp only [wSeq, wIfS, wRet, wRetN, wNext, wBreak, wCont, wNever, wSet, wAsg, wPar, wExpr, wFor, wApp, wPop, wSetIx, wVar, wBor, wTake, wC, wBin, wNil, wCons, wPrim, wCall, wTup, wLst, wSl, wNone, wSome, wM0, wM1, wB, wAndT, wOrT, wNotT, wAndV, wOrV, wNotV, wIf, wIsi, wIsi2, wNeg, wChain, wSortedSet, X_txl, X_txt, wIt, wIt.rdf, wRng1, wRng2, wLc, wYes, lcS, wipeG, backG, noMut, rd_d, rd_o, rd_b, rdf_d, rdf_o, fz_d, fz_o, fz_b, sl_d, sl_o, ok_d, ok_o, argSl_d, argSl_o, argSl_b, items_l, items_t, items_s, rds, rdF, stOk_eq, ncO_some, nc_v, nc_own, nc_no, stOks, setAll, wG, mutAt, putAt, Sl.mu, Sl.put, argSls, noB, fewB, putB, endP, cellsOf, cellF, List.getElem?_cons_zero, List.getElem?_cons_succ, List.getElem?_nil, List.set_cons_zero, List.set_cons_succ, List.append_eq, List.nil_append, List.cons_append, List.replicate, List.take_succ_cons, List.take_zero, List.take_nil, List.filterMap_cons, List.filterMap_nil, Option.map_some, Option.map_none, List.length_cons, List.length_nil, F_add_i, F_add_s, F_add_l, F_add_t, F_int, F_cmp_i, F_cmp_s, F_in_l, F_in_t, F_in_s, F_ix_l, F_ix_t, F_ix_s, F_sl_l, F_sl_t, F_sl_s, F_len_l, F_len_t, F_len_s, F_toInt, F_toStr, F_toTup_l, F_toTup_t, F_toLst_l, F_toLst_t, F_all, F_any, F_split, F_join_l, F_join_t, F_part, F_start, F_end, F_strip, F_sorted_l, F_sorted_t, N_none, N_str, N_int, N_bool, N_tup, N_lst, S_str, S_none, S_int, S_bool, S_tup, S_lst, I_str, I_none, I_int, I_bool, I_tup, I_lst, B_str, B_none, B_int, B_bool, B_tup, B_lst, T_str, T_none, T_int, T_bool, T_tup, T_lst, L_str, L_none, L_int, L_bool, L_tup, L_lst, D_str, D_none, D_int, D_bool, D_tup, D_lst, N_dic, S_dic, I_dic, B_dic, T_dic, L_dic, D_dic, E_ss, E_ii, E_bb, E_ns, E_is, E_bs, E_nn, isA_str, isA_int, isA_bool, isA_tuple, isA_list, isA_dict, fEq, fNe, fIsN, fNotN, eqv_str, eqv_int, eqv_bool, exists_eq_left', exists_eq_left, exists_and_left, R.d.injEq, R.o.injEq, PyData.bool.injEq, PyData.str.injEq, PyData.int.injEq, PyData.tuple.injEq, PyData.list.injEq, List.cons.injEq, Option.some.injEq, and_true, true_and, and_self, Bool.not_true, Bool.not_false, Bool.false_eq_true, Bool.true_eq_false, Bool.true_and, Bool.false_and, Bool.true_or, Bool.false_or, if_true, if_false, reduceIte, reduceCtorEq, not_false_eq_true, ne_eq, true_or, or_true, false_or, or_false, List.map_nil, List.map_cons, Option.toList_some, Option.toList_none, false_and, and_false, Bool.not_eq_true, Bool.or_false, Bool.or_true, Bool.and_true, Bool.and_false] <;> simpa only [soD] using h

def w__law_numbers_1 : WS := (wSet (wBin fDiv (wBor 3) (wC (PyData.int 997))) 3)
def w__law_numbers_2 : WS := (wSeq (wApp 1 (wBin fMod (wPrim fToInt (wCons (wBor 3) wNil)) (wC (PyData.int 997)))) w__law_numbers_1)
def w__law_numbers_3 : WS := (wSeq (wIfS (wB (wBin fEq (wBor 3) (wC (PyData.int 0)))) wBreak wNext) w__law_numbers_2)
def w__law_numbers_4 : WS := (wFor (wRng1 (wCons (wC (PyData.int 60)) wNil)) (.n 4) w__law_numbers_3)
def w__law_numbers_5 : WS := (wApp 1 (wBin fMod (wPrim fToInt (wCons (wBin fAdd (wBin fMul (wBor 5) (wC (PyData.int 16807))) (wBor 4)) wNil)) (wC (PyData.int 2147483629))))
def w__law_numbers_6 : WS := (wSeq (wSet (wBin fMod (wPrim fToInt (wCons (wBin fAdd (wBin fAdd (wBin fMul (wBor 2) (wC (PyData.int 48271))) (wBin fMul (wBor 4) (wC (PyData.int 69621)))) (wC (PyData.int 11))) wNil)) (wC (PyData.int 2147483647))) 5) w__law_numbers_5)
def w__law_numbers_7 : WS := (wIfS (wB (wBin fGe (wBor 2) (wBin fPow (wC (PyData.int 10)) (wC (PyData.int 18))))) (wSeq (wSet (wVar 2) 3) w__law_numbers_4) (wFor (wRng1 (wCons (wC (PyData.int 4)) wNil)) (.n 4) w__law_numbers_6))
def w__law_numbers_8 : WS := (wRet (wTake 1))
def w__law_numbers_9 : WS := (wSeq (wIfS (wB (wBin fEq (wPrim fLen (wCons (wBor 1) wNil)) (wC (PyData.int 0)))) (wApp 1 (wC (PyData.int 0))) wNext) w__law_numbers_8)
def w__law_numbers_10 : WS := (wSeq (wFor (wIt (wSl fSl (wBor 0) wNone (wSome (wC (PyData.int 63))))) (.n 2) w__law_numbers_7) w__law_numbers_9)
def w__law_numbers : WS := (wSeq (wSet (wLst wNil) 1) w__law_numbers_10)

def fs__law_numbers : FS := fun as Q _ => ∃ ns : List Int, as = [.v (.list (ns.map .int))] ∧ ∀ row : List Int, 0 < row.length → row.length ≤ 4000 → Q (.o (row.map .int)) []
theorem l__law_numbers : ∀ as Q X, fs__law_numbers as Q X → as.length = 1 := by rintro as Q X ⟨d, rfl, _⟩; rfl
theorem m__law_numbers : ∀ as Q X, fs__law_numbers as Q X → w__law_numbers (as ++ List.replicate 5 Sl.no) (endP 1 Q X) := by
  rintro as Q X ⟨ns, rfl, h⟩
  simp only [w__law_numbers, w__law_numbers_10, wSeq, wIfS, wRet, wRetN, wNext, wBreak, wCont, wNever, wSet, wAsg, wPar, wExpr, wFor, wApp, wPop, wSetIx, wVar, wBor, wTake, wC, wBin, wNil, wCons, wPrim, wCall, wTup, wLst, wSl, wNone, wSome, wM0, wM1, wB, wAndT, wOrT, wNotT, wAndV, wOrV, wNotV, wIf, wIsi, wIsi2, wNeg, wChain, wSortedSet, X_txl, X_txt, wIt, wIt.rdf, wRng1, wRng2, wLc, wYes, lcS, wipeG, backG, noMut, rd_d, rd_o, rd_b, rdf_d, rdf_o, fz_d, fz_o, fz_b, sl_d, sl_o, ok_d, ok_o, argSl_d, argSl_o, argSl_b, items_l, items_t, items_s, rds, rdF, stOk_eq, ncO_some, nc_v, nc_own, nc_no, stOks, setAll, wG, mutAt, putAt, Sl.mu, Sl.put, argSls, noB, fewB, putB, endP, cellsOf, cellF, List.getElem?_cons_zero, List.getElem?_cons_succ, List.getElem?_nil, List.set_cons_zero, List.set_cons_succ, List.append_eq, List.nil_append, List.cons_append, List.replicate, List.take_succ_cons, List.take_zero, List.take_nil, List.filterMap_cons, List.filterMap_nil, Option.map_some, Option.map_none, List.length_cons, List.length_nil, F_add_i, F_add_s, F_add_l, F_add_t, F_int, F_cmp_i, F_cmp_s, F_in_l, F_in_t, F_in_s, F_ix_l, F_ix_t, F_ix_s, F_sl_l, F_sl_t, F_sl_s, F_len_l, F_len_t, F_len_s, F_toInt, F_toStr, F_toTup_l, F_toTup_t, F_toLst_l, F_toLst_t, F_all, F_any, F_split, F_join_l, F_join_t, F_part, F_start, F_end, F_strip, F_sorted_l, F_sorted_t, N_none, N_str, N_int, N_bool, N_tup, N_lst, S_str, S_none, S_int, S_bool, S_tup, S_lst, I_str, I_none, I_int, I_bool, I_tup, I_lst, B_str, B_none, B_int, B_bool, B_tup, B_lst, T_str, T_none, T_int, T_bool, T_tup, T_lst, L_str, L_none, L_int, L_bool, L_tup, L_lst, D_str, D_none, D_int, D_bool, D_tup, D_lst, N_dic, S_dic, I_dic, B_dic, T_dic, L_dic, D_dic, E_ss, E_ii, E_bb, E_ns, E_is, E_bs, E_nn, isA_str, isA_int, isA_bool, isA_tuple, isA_list, isA_dict, fEq, fNe, fIsN, fNotN, eqv_str, eqv_int, eqv_bool, exists_eq_left', exists_eq_left, exists_and_left, R.d.injEq, R.o.injEq, PyData.bool.injEq, PyData.str.injEq, PyData.int.injEq, PyData.tuple.injEq, PyData.list.injEq, List.cons.injEq, Option.some.injEq, and_true, true_and, and_self, Bool.not_true, Bool.not_false, Bool.false_eq_true, Bool.true_eq_false, Bool.true_and, Bool.false_and, Bool.true_or, Bool.false_or, if_true, if_false, reduceIte, reduceCtorEq, not_false_eq_true, ne_eq, true_or, or_true, false_or, or_false, List.map_nil, List.map_cons, Option.toList_some, Option.toList_none, false_and, and_false, Bool.not_eq_true, Bool.or_false, Bool.or_true, Bool.and_true, Bool.and_false, cut63]
  refine ⟨by decide, ?_⟩
  refine forI_E (ns.take 63) PyData.int (fun pre Γ => ∃ (rw : List Int) (a b c d : Sl), Γ = [.v (.list (ns.map .int)), .own (rw.map .int), a, b, c, d] ∧ nc a ∧ nc b ∧ nc c ∧ nc d ∧ rw.length ≤ 60 * pre.length) rfl ⟨[], _, _, _, _, rfl, trivial, trivial, trivial, trivial, Nat.le_refl _⟩ ?_ ?_
  · rintro pre x post _ q ⟨rw, a, b, c, d, rfl, na, nb, nc1, nd, hl⟩ N hN
    have hp : pre.length ≤ 62 := by
      have := congrArg List.length q
      simp only [List.length_take, List.length_append, List.length_cons] at this
      omega
    simp only [w__law_numbers_7, wSeq, wIfS, wRet, wRetN, wNext, wBreak, wCont, wNever, wSet, wAsg, wPar, wExpr, wFor, wApp, wPop, wSetIx, wVar, wBor, wTake, wC, wBin, wNil, wCons, wPrim, wCall, wTup, wLst, wSl, wNone, wSome, wM0, wM1, wB, wAndT, wOrT, wNotT, wAndV, wOrV, wNotV, wIf, wIsi, wIsi2, wNeg, wChain, wSortedSet, X_txl, X_txt, wIt, wIt.rdf, wRng1, wRng2, wLc, wYes, lcS, wipeG, backG, noMut, rd_d, rd_o, rd_b, rdf_d, rdf_o, fz_d, fz_o, fz_b, sl_d, sl_o, ok_d, ok_o, argSl_d, argSl_o, argSl_b, items_l, items_t, items_s, rds, rdF, stOk_eq, ncO_some, nc_v, nc_own, nc_no, stOks, setAll, wG, mutAt, putAt, Sl.mu, Sl.put, argSls, noB, fewB, putB, endP, cellsOf, cellF, List.getElem?_cons_zero, List.getElem?_cons_succ, List.getElem?_nil, List.set_cons_zero, List.set_cons_succ, List.append_eq, List.nil_append, List.cons_append, List.replicate, List.take_succ_cons, List.take_zero, List.take_nil, List.filterMap_cons, List.filterMap_nil, Option.map_some, Option.map_none, List.length_cons, List.length_nil, F_add_i, F_add_s, F_add_l, F_add_t, F_int, F_cmp_i, F_cmp_s, F_in_l, F_in_t, F_in_s, F_ix_l, F_ix_t, F_ix_s, F_sl_l, F_sl_t, F_sl_s, F_len_l, F_len_t, F_len_s, F_toInt, F_toStr, F_toTup_l, F_toTup_t, F_toLst_l, F_toLst_t, F_all, F_any, F_split, F_join_l, F_join_t, F_part, F_start, F_end, F_strip, F_sorted_l, F_sorted_t, N_none, N_str, N_int, N_bool, N_tup, N_lst, S_str, S_none, S_int, S_bool, S_tup, S_lst, I_str, I_none, I_int, I_bool, I_tup, I_lst, B_str, B_none, B_int, B_bool, B_tup, B_lst, T_str, T_none, T_int, T_bool, T_tup, T_lst, L_str, L_none, L_int, L_bool, L_tup, L_lst, D_str, D_none, D_int, D_bool, D_tup, D_lst, N_dic, S_dic, I_dic, B_dic, T_dic, L_dic, D_dic, E_ss, E_ii, E_bb, E_ns, E_is, E_bs, E_nn, isA_str, isA_int, isA_bool, isA_tuple, isA_list, isA_dict, fEq, fNe, fIsN, fNotN, eqv_str, eqv_int, eqv_bool, exists_eq_left', exists_eq_left, exists_and_left, R.d.injEq, R.o.injEq, PyData.bool.injEq, PyData.str.injEq, PyData.int.injEq, PyData.tuple.injEq, PyData.list.injEq, List.cons.injEq, Option.some.injEq, and_true, true_and, and_self, Bool.not_true, Bool.not_false, Bool.false_eq_true, Bool.true_eq_false, Bool.true_and, Bool.false_and, Bool.true_or, Bool.false_or, if_true, if_false, reduceIte, reduceCtorEq, not_false_eq_true, ne_eq, true_or, or_true, false_or, or_false, List.map_nil, List.map_cons, Option.toList_some, Option.toList_none, false_and, and_false, Bool.not_eq_true, Bool.or_false, Bool.or_true, Bool.and_true, Bool.and_false, na, nb]
    refine ⟨cpow10, ?_⟩
    split
    · simp only [w__law_numbers_4, wSeq, wIfS, wRet, wRetN, wNext, wBreak, wCont, wNever, wSet, wAsg, wPar, wExpr, wFor, wApp, wPop, wSetIx, wVar, wBor, wTake, wC, wBin, wNil, wCons, wPrim, wCall, wTup, wLst, wSl, wNone, wSome, wM0, wM1, wB, wAndT, wOrT, wNotT, wAndV, wOrV, wNotV, wIf, wIsi, wIsi2, wNeg, wChain, wSortedSet, X_txl, X_txt, wIt, wIt.rdf, wRng1, wRng2, wLc, wYes, lcS, wipeG, backG, noMut, rd_d, rd_o, rd_b, rdf_d, rdf_o, fz_d, fz_o, fz_b, sl_d, sl_o, ok_d, ok_o, argSl_d, argSl_o, argSl_b, items_l, items_t, items_s, rds, rdF, stOk_eq, ncO_some, nc_v, nc_own, nc_no, stOks, setAll, wG, mutAt, putAt, Sl.mu, Sl.put, argSls, noB, fewB, putB, endP, cellsOf, cellF, List.getElem?_cons_zero, List.getElem?_cons_succ, List.getElem?_nil, List.set_cons_zero, List.set_cons_succ, List.append_eq, List.nil_append, List.cons_append, List.replicate, List.take_succ_cons, List.take_zero, List.take_nil, List.filterMap_cons, List.filterMap_nil, Option.map_some, Option.map_none, List.length_cons, List.length_nil, F_add_i, F_add_s, F_add_l, F_add_t, F_int, F_cmp_i, F_cmp_s, F_in_l, F_in_t, F_in_s, F_ix_l, F_ix_t, F_ix_s, F_sl_l, F_sl_t, F_sl_s, F_len_l, F_len_t, F_len_s, F_toInt, F_toStr, F_toTup_l, F_toTup_t, F_toLst_l, F_toLst_t, F_all, F_any, F_split, F_join_l, F_join_t, F_part, F_start, F_end, F_strip, F_sorted_l, F_sorted_t, N_none, N_str, N_int, N_bool, N_tup, N_lst, S_str, S_none, S_int, S_bool, S_tup, S_lst, I_str, I_none, I_int, I_bool, I_tup, I_lst, B_str, B_none, B_int, B_bool, B_tup, B_lst, T_str, T_none, T_int, T_bool, T_tup, T_lst, L_str, L_none, L_int, L_bool, L_tup, L_lst, D_str, D_none, D_int, D_bool, D_tup, D_lst, N_dic, S_dic, I_dic, B_dic, T_dic, L_dic, D_dic, E_ss, E_ii, E_bb, E_ns, E_is, E_bs, E_nn, isA_str, isA_int, isA_bool, isA_tuple, isA_list, isA_dict, fEq, fNe, fIsN, fNotN, eqv_str, eqv_int, eqv_bool, exists_eq_left', exists_eq_left, exists_and_left, R.d.injEq, R.o.injEq, PyData.bool.injEq, PyData.str.injEq, PyData.int.injEq, PyData.tuple.injEq, PyData.list.injEq, List.cons.injEq, Option.some.injEq, and_true, true_and, and_self, Bool.not_true, Bool.not_false, Bool.false_eq_true, Bool.true_eq_false, Bool.true_and, Bool.false_and, Bool.true_or, Bool.false_or, if_true, if_false, reduceIte, reduceCtorEq, not_false_eq_true, ne_eq, true_or, or_true, false_or, or_false, List.map_nil, List.map_cons, Option.toList_some, Option.toList_none, false_and, and_false, Bool.not_eq_true, Bool.or_false, Bool.or_true, Bool.and_true, Bool.and_false]
      refine ⟨inR_c, ?_⟩
      refine forI_E (List.range 60) (fun (i : Nat) => PyData.int (0 + i)) (fun pre2 Γ => ∃ (r2 : List Int) (lf : Int) (c d : Sl), Γ = [.v (.list (ns.map .int)), .own (r2.map .int), .v (.int x), .v (.int lf), c, d] ∧ nc c ∧ nc d ∧ r2.length ≤ 60 * pre.length + pre2.length) rfl ⟨rw, x, c, d, rfl, nc1, nd, hl⟩ ?_ ?_
      · rintro pre2 y post2 _ q2 ⟨r2, lf, c, d, rfl, nc1, nd, hl2⟩ N2 hN2
        have hp2 : pre2.length < 60 := by
          have := congrArg List.length q2
          simp only [List.length_range, List.length_append, List.length_cons] at this
          omega
        have hz : r2.length < sizeLine := Nat.lt_of_le_of_lt (show r2.length ≤ 3780 by omega) (by decide)
        simp only [w__law_numbers_3, w__law_numbers_2, w__law_numbers_1, wSeq, wIfS, wRet, wRetN, wNext, wBreak, wCont, wNever, wSet, wAsg, wPar, wExpr, wFor, wApp, wPop, wSetIx, wVar, wBor, wTake, wC, wBin, wNil, wCons, wPrim, wCall, wTup, wLst, wSl, wNone, wSome, wM0, wM1, wB, wAndT, wOrT, wNotT, wAndV, wOrV, wNotV, wIf, wIsi, wIsi2, wNeg, wChain, wSortedSet, X_txl, X_txt, wIt, wIt.rdf, wRng1, wRng2, wLc, wYes, lcS, wipeG, backG, noMut, rd_d, rd_o, rd_b, rdf_d, rdf_o, fz_d, fz_o, fz_b, sl_d, sl_o, ok_d, ok_o, argSl_d, argSl_o, argSl_b, items_l, items_t, items_s, rds, rdF, stOk_eq, ncO_some, nc_v, nc_own, nc_no, stOks, setAll, wG, mutAt, putAt, Sl.mu, Sl.put, argSls, noB, fewB, putB, endP, cellsOf, cellF, List.getElem?_cons_zero, List.getElem?_cons_succ, List.getElem?_nil, List.set_cons_zero, List.set_cons_succ, List.append_eq, List.nil_append, List.cons_append, List.replicate, List.take_succ_cons, List.take_zero, List.take_nil, List.filterMap_cons, List.filterMap_nil, Option.map_some, Option.map_none, List.length_cons, List.length_nil, F_add_i, F_add_s, F_add_l, F_add_t, F_int, F_cmp_i, F_cmp_s, F_in_l, F_in_t, F_in_s, F_ix_l, F_ix_t, F_ix_s, F_sl_l, F_sl_t, F_sl_s, F_len_l, F_len_t, F_len_s, F_toInt, F_toStr, F_toTup_l, F_toTup_t, F_toLst_l, F_toLst_t, F_all, F_any, F_split, F_join_l, F_join_t, F_part, F_start, F_end, F_strip, F_sorted_l, F_sorted_t, N_none, N_str, N_int, N_bool, N_tup, N_lst, S_str, S_none, S_int, S_bool, S_tup, S_lst, I_str, I_none, I_int, I_bool, I_tup, I_lst, B_str, B_none, B_int, B_bool, B_tup, B_lst, T_str, T_none, T_int, T_bool, T_tup, T_lst, L_str, L_none, L_int, L_bool, L_tup, L_lst, D_str, D_none, D_int, D_bool, D_tup, D_lst, N_dic, S_dic, I_dic, B_dic, T_dic, L_dic, D_dic, E_ss, E_ii, E_bb, E_ns, E_is, E_bs, E_nn, isA_str, isA_int, isA_bool, isA_tuple, isA_list, isA_dict, fEq, fNe, fIsN, fNotN, eqv_str, eqv_int, eqv_bool, exists_eq_left', exists_eq_left, exists_and_left, R.d.injEq, R.o.injEq, PyData.bool.injEq, PyData.str.injEq, PyData.int.injEq, PyData.tuple.injEq, PyData.list.injEq, List.cons.injEq, Option.some.injEq, and_true, true_and, and_self, Bool.not_true, Bool.not_false, Bool.false_eq_true, Bool.true_eq_false, Bool.true_and, Bool.false_and, Bool.true_or, Bool.false_or, if_true, if_false, reduceIte, reduceCtorEq, not_false_eq_true, ne_eq, true_or, or_true, false_or, or_false, List.map_nil, List.map_cons, Option.toList_some, Option.toList_none, false_and, and_false, Bool.not_eq_true, Bool.or_false, Bool.or_true, Bool.and_true, Bool.and_false, nc1]
        split
        · exact hN _ ⟨r2, _, _, _, _, rfl, trivial, trivial, (by exact trivial), nd, by simp only [List.length_append, List.length_singleton]; omega⟩
        · simp only [List.length_map, hz, exists_eq', exists_eq_left', exists_eq_left, exists_and_left, R.d.injEq, R.o.injEq, PyData.bool.injEq, PyData.str.injEq, PyData.int.injEq, PyData.tuple.injEq, PyData.list.injEq, List.cons.injEq, Option.some.injEq, and_true, true_and, and_self, Bool.not_true, Bool.not_false, Bool.false_eq_true, Bool.true_eq_false, Bool.true_and, Bool.false_and, Bool.true_or, Bool.false_or, if_true, if_false, reduceIte, reduceCtorEq, not_false_eq_true, ne_eq, true_or, or_true, false_or, or_false, List.map_nil, List.map_cons, Option.toList_some, Option.toList_none, false_and, and_false, Bool.not_eq_true, Bool.or_false, Bool.or_true, Bool.and_true, Bool.and_false]
          refine ⟨by decide, by exact ⟨by decide, by decide⟩, ?_⟩
          exact hN2 _ ⟨r2 ++ [lf % 997], lf / 997, _, _, by rw [List.map_append]; rfl, (by exact trivial), nd, by simp only [List.length_append, List.length_singleton]; omega⟩
      · rintro _ ⟨r2, lf, c, d, rfl, nc1, nd, hl2⟩
        exact hN _ ⟨r2, _, _, _, _, rfl, trivial, trivial, nc1, nd, by simp only [List.length_append, List.length_singleton, List.length_range] at *; omega⟩
    · refine ⟨inR_c, ?_⟩
      refine forI_E (List.range 4) (fun (i : Nat) => PyData.int (0 + i)) (fun pre2 Γ => ∃ (r2 : List Int) (b c d : Sl), Γ = [.v (.list (ns.map .int)), .own (r2.map .int), .v (.int x), b, c, d] ∧ nc b ∧ nc c ∧ nc d ∧ r2.length ≤ 60 * pre.length + pre2.length) rfl ⟨rw, b, c, d, rfl, nb, nc1, nd, hl⟩ ?_ ?_
      · rintro pre2 y post2 _ q2 ⟨r2, b, c, d, rfl, nb, nc1, nd, hl2⟩ N2 hN2
        have hp2 : pre2.length < 4 := by
          have := congrArg List.length q2
          simp only [List.length_range, List.length_append, List.length_cons] at this
          omega
        have hz : r2.length < sizeLine := Nat.lt_of_le_of_lt (show r2.length ≤ 3780 by omega) (by decide)
        simp only [w__law_numbers_6, w__law_numbers_5, wSeq, wIfS, wRet, wRetN, wNext, wBreak, wCont, wNever, wSet, wAsg, wPar, wExpr, wFor, wApp, wPop, wSetIx, wVar, wBor, wTake, wC, wBin, wNil, wCons, wPrim, wCall, wTup, wLst, wSl, wNone, wSome, wM0, wM1, wB, wAndT, wOrT, wNotT, wAndV, wOrV, wNotV, wIf, wIsi, wIsi2, wNeg, wChain, wSortedSet, X_txl, X_txt, wIt, wIt.rdf, wRng1, wRng2, wLc, wYes, lcS, wipeG, backG, noMut, rd_d, rd_o, rd_b, rdf_d, rdf_o, fz_d, fz_o, fz_b, sl_d, sl_o, ok_d, ok_o, argSl_d, argSl_o, argSl_b, items_l, items_t, items_s, rds, rdF, stOk_eq, ncO_some, nc_v, nc_own, nc_no, stOks, setAll, wG, mutAt, putAt, Sl.mu, Sl.put, argSls, noB, fewB, putB, endP, cellsOf, cellF, List.getElem?_cons_zero, List.getElem?_cons_succ, List.getElem?_nil, List.set_cons_zero, List.set_cons_succ, List.append_eq, List.nil_append, List.cons_append, List.replicate, List.take_succ_cons, List.take_zero, List.take_nil, List.filterMap_cons, List.filterMap_nil, Option.map_some, Option.map_none, List.length_cons, List.length_nil, F_add_i, F_add_s, F_add_l, F_add_t, F_int, F_cmp_i, F_cmp_s, F_in_l, F_in_t, F_in_s, F_ix_l, F_ix_t, F_ix_s, F_sl_l, F_sl_t, F_sl_s, F_len_l, F_len_t, F_len_s, F_toInt, F_toStr, F_toTup_l, F_toTup_t, F_toLst_l, F_toLst_t, F_all, F_any, F_split, F_join_l, F_join_t, F_part, F_start, F_end, F_strip, F_sorted_l, F_sorted_t, N_none, N_str, N_int, N_bool, N_tup, N_lst, S_str, S_none, S_int, S_bool, S_tup, S_lst, I_str, I_none, I_int, I_bool, I_tup, I_lst, B_str, B_none, B_int, B_bool, B_tup, B_lst, T_str, T_none, T_int, T_bool, T_tup, T_lst, L_str, L_none, L_int, L_bool, L_tup, L_lst, D_str, D_none, D_int, D_bool, D_tup, D_lst, N_dic, S_dic, I_dic, B_dic, T_dic, L_dic, D_dic, E_ss, E_ii, E_bb, E_ns, E_is, E_bs, E_nn, isA_str, isA_int, isA_bool, isA_tuple, isA_list, isA_dict, fEq, fNe, fIsN, fNotN, eqv_str, eqv_int, eqv_bool, exists_eq_left', exists_eq_left, exists_and_left, R.d.injEq, R.o.injEq, PyData.bool.injEq, PyData.str.injEq, PyData.int.injEq, PyData.tuple.injEq, PyData.list.injEq, List.cons.injEq, Option.some.injEq, and_true, true_and, and_self, Bool.not_true, Bool.not_false, Bool.false_eq_true, Bool.true_eq_false, Bool.true_and, Bool.false_and, Bool.true_or, Bool.false_or, if_true, if_false, reduceIte, reduceCtorEq, not_false_eq_true, ne_eq, true_or, or_true, false_or, or_false, List.map_nil, List.map_cons, Option.toList_some, Option.toList_none, false_and, and_false, Bool.not_eq_true, Bool.or_false, Bool.or_true, Bool.and_true, Bool.and_false, nc1, nd, List.length_map, hz, exists_eq']
        refine ⟨cmulR _ _, cmulR _ _, by decide, cmulR _ _, by decide, ?_⟩
        exact hN2 _ ⟨r2 ++ [_], _, _, _, by rw [List.map_append]; rfl, nb, (by exact trivial), (by exact trivial), by simp only [List.length_append, List.length_singleton]; omega⟩
      · rintro _ ⟨r2, b, c, d, rfl, nb, nc1, nd, hl2⟩
        exact hN _ ⟨r2, _, _, _, _, rfl, trivial, nb, nc1, nd, by simp only [List.length_append, List.length_singleton, List.length_range] at *; omega⟩
  · rintro _ ⟨rw, a, b, c, d, rfl, na, nb, nc1, nd, hl⟩
    have hl2 : (ns.take 63).length ≤ 63 := by simp only [List.length_take]; omega
    simp only [w__law_numbers_9, w__law_numbers_8, wSeq, wIfS, wRet, wRetN, wNext, wBreak, wCont, wNever, wSet, wAsg, wPar, wExpr, wFor, wApp, wPop, wSetIx, wVar, wBor, wTake, wC, wBin, wNil, wCons, wPrim, wCall, wTup, wLst, wSl, wNone, wSome, wM0, wM1, wB, wAndT, wOrT, wNotT, wAndV, wOrV, wNotV, wIf, wIsi, wIsi2, wNeg, wChain, wSortedSet, X_txl, X_txt, wIt, wIt.rdf, wRng1, wRng2, wLc, wYes, lcS, wipeG, backG, noMut, rd_d, rd_o, rd_b, rdf_d, rdf_o, fz_d, fz_o, fz_b, sl_d, sl_o, ok_d, ok_o, argSl_d, argSl_o, argSl_b, items_l, items_t, items_s, rds, rdF, stOk_eq, ncO_some, nc_v, nc_own, nc_no, stOks, setAll, wG, mutAt, putAt, Sl.mu, Sl.put, argSls, noB, fewB, putB, endP, cellsOf, cellF, List.getElem?_cons_zero, List.getElem?_cons_succ, List.getElem?_nil, List.set_cons_zero, List.set_cons_succ, List.append_eq, List.nil_append, List.cons_append, List.replicate, List.take_succ_cons, List.take_zero, List.take_nil, List.filterMap_cons, List.filterMap_nil, Option.map_some, Option.map_none, List.length_cons, List.length_nil, F_add_i, F_add_s, F_add_l, F_add_t, F_int, F_cmp_i, F_cmp_s, F_in_l, F_in_t, F_in_s, F_ix_l, F_ix_t, F_ix_s, F_sl_l, F_sl_t, F_sl_s, F_len_l, F_len_t, F_len_s, F_toInt, F_toStr, F_toTup_l, F_toTup_t, F_toLst_l, F_toLst_t, F_all, F_any, F_split, F_join_l, F_join_t, F_part, F_start, F_end, F_strip, F_sorted_l, F_sorted_t, N_none, N_str, N_int, N_bool, N_tup, N_lst, S_str, S_none, S_int, S_bool, S_tup, S_lst, I_str, I_none, I_int, I_bool, I_tup, I_lst, B_str, B_none, B_int, B_bool, B_tup, B_lst, T_str, T_none, T_int, T_bool, T_tup, T_lst, L_str, L_none, L_int, L_bool, L_tup, L_lst, D_str, D_none, D_int, D_bool, D_tup, D_lst, N_dic, S_dic, I_dic, B_dic, T_dic, L_dic, D_dic, E_ss, E_ii, E_bb, E_ns, E_is, E_bs, E_nn, isA_str, isA_int, isA_bool, isA_tuple, isA_list, isA_dict, fEq, fNe, fIsN, fNotN, eqv_str, eqv_int, eqv_bool, exists_eq_left', exists_eq_left, exists_and_left, R.d.injEq, R.o.injEq, PyData.bool.injEq, PyData.str.injEq, PyData.int.injEq, PyData.tuple.injEq, PyData.list.injEq, List.cons.injEq, Option.some.injEq, and_true, true_and, and_self, Bool.not_true, Bool.not_false, Bool.false_eq_true, Bool.true_eq_false, Bool.true_and, Bool.false_and, Bool.true_or, Bool.false_or, if_true, if_false, reduceIte, reduceCtorEq, not_false_eq_true, ne_eq, true_or, or_true, false_or, or_false, List.map_nil, List.map_cons, Option.toList_some, Option.toList_none, false_and, and_false, Bool.not_eq_true, Bool.or_false, Bool.or_true, Bool.and_true, Bool.and_false]
    split
    · rename_i hz
      simp only [List.length_map, beq_iff_eq] at hz
      have : rw = [] := List.length_eq_zero_iff.mp (by omega)
      subst this
      simp only [List.map_nil, wSeq, wIfS, wRet, wRetN, wNext, wBreak, wCont, wNever, wSet, wAsg, wPar, wExpr, wFor, wApp, wPop, wSetIx, wVar, wBor, wTake, wC, wBin, wNil, wCons, wPrim, wCall, wTup, wLst, wSl, wNone, wSome, wM0, wM1, wB, wAndT, wOrT, wNotT, wAndV, wOrV, wNotV, wIf, wIsi, wIsi2, wNeg, wChain, wSortedSet, X_txl, X_txt, wIt, wIt.rdf, wRng1, wRng2, wLc, wYes, lcS, wipeG, backG, noMut, rd_d, rd_o, rd_b, rdf_d, rdf_o, fz_d, fz_o, fz_b, sl_d, sl_o, ok_d, ok_o, argSl_d, argSl_o, argSl_b, items_l, items_t, items_s, rds, rdF, stOk_eq, ncO_some, nc_v, nc_own, nc_no, stOks, setAll, wG, mutAt, putAt, Sl.mu, Sl.put, argSls, noB, fewB, putB, endP, cellsOf, cellF, List.getElem?_cons_zero, List.getElem?_cons_succ, List.getElem?_nil, List.set_cons_zero, List.set_cons_succ, List.append_eq, List.nil_append, List.cons_append, List.replicate, List.take_succ_cons, List.take_zero, List.take_nil, List.filterMap_cons, List.filterMap_nil, Option.map_some, Option.map_none, List.length_cons, List.length_nil, exists_eq_left', exists_eq_left, exists_and_left, R.d.injEq, R.o.injEq, PyData.bool.injEq, PyData.str.injEq, PyData.int.injEq, PyData.tuple.injEq, PyData.list.injEq, List.cons.injEq, Option.some.injEq, and_true, true_and, and_self, Bool.not_true, Bool.not_false, Bool.false_eq_true, Bool.true_eq_false, Bool.true_and, Bool.false_and, Bool.true_or, Bool.false_or, if_true, if_false, reduceIte, reduceCtorEq, not_false_eq_true, ne_eq, true_or, or_true, false_or, or_false, List.map_nil, List.map_cons, Option.toList_some, Option.toList_none, false_and, and_false, Bool.not_eq_true, Bool.or_false, Bool.or_true, Bool.and_true, Bool.and_false, exists_eq']
      refine ⟨by decide, ?_⟩
      exact h [0] (by decide) (by decide)
    · rename_i hz
      simp only [List.length_map, beq_iff_eq] at hz
      exact h rw (by omega) (by omega)

def w__law_draw_1 : WS := (wRet (wBin fMod (wPrim fToInt (wCons (wBin fMod (wPrim fToInt (wCons (wBin fAdd (wBin fMul (wBor 3) (wC (PyData.int 48271))) (wBor 1)) wNil)) (wC (PyData.int 2147483647))) wNil)) (wBor 2)))
def w__law_draw_2 : WS := (wSeq (wSet (wBin fMod (wPrim fToInt (wCons (wBin fAdd (wBin fAdd (wBin fMul (wBin fIx (wBor 0) (wBin fMod (wPrim fToInt (wCons (wBor 1) wNil)) (wPrim fLen (wCons (wBor 0) wNil)))) (wC (PyData.int 40692))) (wBin fMul (wBor 1) (wC (PyData.int 7919)))) (wC (PyData.int 3))) wNil)) (wC (PyData.int 2147483399))) 3) w__law_draw_1)
def w__law_draw : WS := (wSeq (wIfS (wB (wBin fLt (wBor 1) (wPrim fLen (wCons (wBor 0) wNil)))) (wRet (wBin fMod (wPrim fToInt (wCons (wBin fIx (wBor 0) (wVar 1)) wNil)) (wBor 2))) wNext) w__law_draw_2)

def fs__law_draw : FS := fun as Q _ => ∃ (row : List Int) (at_ lim : Int), as = [.v (.list (row.map .int)), .v (.int at_), .v (.int lim)] ∧ 0 < row.length ∧ 0 ≤ at_ ∧ 0 < lim ∧ ∀ r : Int, 0 ≤ r → r < lim → Q (.d (.int r)) []
theorem l__law_draw : ∀ as Q X, fs__law_draw as Q X → as.length = 3 := by rintro as Q X ⟨_, _, _, rfl, _⟩; rfl
theorem m__law_draw : ∀ as Q X, fs__law_draw as Q X → w__law_draw (as ++ List.replicate 1 Sl.no) (endP 3 Q X) := by
  rintro as Q X ⟨row, a, lim, rfl, hr, ha, hl, h⟩
  have hm : ∀ i : Int, Q (.d (.int (i % lim))) [] := fun i => h _ (mod_lt i hl).1 (mod_lt i hl).2
  have at_ok : ∀ k : Int, 0 ≤ k → k < row.length → ∃ x : Int, atI (row.map PyData.int) k = some (.int x) := fun k h0 h1 => by
    have hk : k.toNat < row.length := by omega
    refine ⟨row[k.toNat], ?_⟩
    have := atI_nat (xs := row.map PyData.int) (k := k.toNat) (x := .int row[k.toNat]) (by simp [hk])
    rwa [show ((k.toNat : Nat) : Int) = k by omega] at this
  simp only [w__law_draw, w__law_draw_2, w__law_draw_1, wSeq, wIfS, wRet, wRetN, wNext, wBreak, wCont, wNever, wSet, wAsg, wPar, wExpr, wFor, wApp, wPop, wSetIx, wVar, wBor, wTake, wC, wBin, wNil, wCons, wPrim, wCall, wTup, wLst, wSl, wNone, wSome, wM0, wM1, wB, wAndT, wOrT, wNotT, wAndV, wOrV, wNotV, wIf, wIsi, wIsi2, wNeg, wChain, wSortedSet, X_txl, X_txt, wIt, wIt.rdf, wRng1, wRng2, wLc, wYes, lcS, wipeG, backG, noMut, rd_d, rd_o, rd_b, rdf_d, rdf_o, fz_d, fz_o, fz_b, sl_d, sl_o, ok_d, ok_o, argSl_d, argSl_o, argSl_b, items_l, items_t, items_s, rds, rdF, stOk_eq, ncO_some, nc_v, nc_own, nc_no, stOks, setAll, wG, mutAt, putAt, Sl.mu, Sl.put, argSls, noB, fewB, putB, endP, cellsOf, cellF, List.getElem?_cons_zero, List.getElem?_cons_succ, List.getElem?_nil, List.set_cons_zero, List.set_cons_succ, List.append_eq, List.nil_append, List.cons_append, List.replicate, List.take_succ_cons, List.take_zero, List.take_nil, List.filterMap_cons, List.filterMap_nil, Option.map_some, Option.map_none, List.length_cons, List.length_nil, F_add_i, F_add_s, F_add_l, F_add_t, F_int, F_cmp_i, F_cmp_s, F_in_l, F_in_t, F_in_s, F_ix_l, F_ix_t, F_ix_s, F_sl_l, F_sl_t, F_sl_s, F_len_l, F_len_t, F_len_s, F_toInt, F_toStr, F_toTup_l, F_toTup_t, F_toLst_l, F_toLst_t, F_all, F_any, F_split, F_join_l, F_join_t, F_part, F_start, F_end, F_strip, F_sorted_l, F_sorted_t, N_none, N_str, N_int, N_bool, N_tup, N_lst, S_str, S_none, S_int, S_bool, S_tup, S_lst, I_str, I_none, I_int, I_bool, I_tup, I_lst, B_str, B_none, B_int, B_bool, B_tup, B_lst, T_str, T_none, T_int, T_bool, T_tup, T_lst, L_str, L_none, L_int, L_bool, L_tup, L_lst, D_str, D_none, D_int, D_bool, D_tup, D_lst, N_dic, S_dic, I_dic, B_dic, T_dic, L_dic, D_dic, E_ss, E_ii, E_bb, E_ns, E_is, E_bs, E_nn, isA_str, isA_int, isA_bool, isA_tuple, isA_list, isA_dict, fEq, fNe, fIsN, fNotN, eqv_str, eqv_int, eqv_bool, exists_eq_left', exists_eq_left, exists_and_left, R.d.injEq, R.o.injEq, PyData.bool.injEq, PyData.str.injEq, PyData.int.injEq, PyData.tuple.injEq, PyData.list.injEq, List.cons.injEq, Option.some.injEq, and_true, true_and, and_self, Bool.not_true, Bool.not_false, Bool.false_eq_true, Bool.true_eq_false, Bool.true_and, Bool.false_and, Bool.true_or, Bool.false_or, if_true, if_false, reduceIte, reduceCtorEq, not_false_eq_true, ne_eq, true_or, or_true, false_or, or_false, List.map_nil, List.map_cons, Option.toList_some, Option.toList_none, false_and, and_false, Bool.not_eq_true, Bool.or_false, Bool.or_true, Bool.and_true, Bool.and_false, List.length_map]
  split
  · rename_i hb
    obtain ⟨x, hx⟩ := at_ok a ha (of_decide_eq_true hb)
    refine ⟨_, hx, ?_⟩
    simp only [wSeq, wIfS, wRet, wRetN, wNext, wBreak, wCont, wNever, wSet, wAsg, wPar, wExpr, wFor, wApp, wPop, wSetIx, wVar, wBor, wTake, wC, wBin, wNil, wCons, wPrim, wCall, wTup, wLst, wSl, wNone, wSome, wM0, wM1, wB, wAndT, wOrT, wNotT, wAndV, wOrV, wNotV, wIf, wIsi, wIsi2, wNeg, wChain, wSortedSet, X_txl, X_txt, wIt, wIt.rdf, wRng1, wRng2, wLc, wYes, lcS, wipeG, backG, noMut, rd_d, rd_o, rd_b, rdf_d, rdf_o, fz_d, fz_o, fz_b, sl_d, sl_o, ok_d, ok_o, argSl_d, argSl_o, argSl_b, items_l, items_t, items_s, rds, rdF, stOk_eq, ncO_some, nc_v, nc_own, nc_no, stOks, setAll, wG, mutAt, putAt, Sl.mu, Sl.put, argSls, noB, fewB, putB, endP, cellsOf, cellF, List.getElem?_cons_zero, List.getElem?_cons_succ, List.getElem?_nil, List.set_cons_zero, List.set_cons_succ, List.append_eq, List.nil_append, List.cons_append, List.replicate, List.take_succ_cons, List.take_zero, List.take_nil, List.filterMap_cons, List.filterMap_nil, Option.map_some, Option.map_none, List.length_cons, List.length_nil, F_add_i, F_add_s, F_add_l, F_add_t, F_int, F_cmp_i, F_cmp_s, F_in_l, F_in_t, F_in_s, F_ix_l, F_ix_t, F_ix_s, F_sl_l, F_sl_t, F_sl_s, F_len_l, F_len_t, F_len_s, F_toInt, F_toStr, F_toTup_l, F_toTup_t, F_toLst_l, F_toLst_t, F_all, F_any, F_split, F_join_l, F_join_t, F_part, F_start, F_end, F_strip, F_sorted_l, F_sorted_t, N_none, N_str, N_int, N_bool, N_tup, N_lst, S_str, S_none, S_int, S_bool, S_tup, S_lst, I_str, I_none, I_int, I_bool, I_tup, I_lst, B_str, B_none, B_int, B_bool, B_tup, B_lst, T_str, T_none, T_int, T_bool, T_tup, T_lst, L_str, L_none, L_int, L_bool, L_tup, L_lst, D_str, D_none, D_int, D_bool, D_tup, D_lst, N_dic, S_dic, I_dic, B_dic, T_dic, L_dic, D_dic, E_ss, E_ii, E_bb, E_ns, E_is, E_bs, E_nn, isA_str, isA_int, isA_bool, isA_tuple, isA_list, isA_dict, fEq, fNe, fIsN, fNotN, eqv_str, eqv_int, eqv_bool, exists_eq_left', exists_eq_left, exists_and_left, R.d.injEq, R.o.injEq, PyData.bool.injEq, PyData.str.injEq, PyData.int.injEq, PyData.tuple.injEq, PyData.list.injEq, List.cons.injEq, Option.some.injEq, and_true, true_and, and_self, Bool.not_true, Bool.not_false, Bool.false_eq_true, Bool.true_eq_false, Bool.true_and, Bool.false_and, Bool.true_or, Bool.false_or, if_true, if_false, reduceIte, reduceCtorEq, not_false_eq_true, ne_eq, true_or, or_true, false_or, or_false, List.map_nil, List.map_cons, Option.toList_some, Option.toList_none, false_and, and_false, Bool.not_eq_true, Bool.or_false, Bool.or_true, Bool.and_true, Bool.and_false]
    exact ⟨hl, hm _⟩
  · obtain ⟨x, hx⟩ := at_ok (a % row.length) (mod_lt _ (by omega)).1 (mod_lt _ (by omega)).2
    refine ⟨by omega, _, hx, ?_⟩
    simp only [wSeq, wIfS, wRet, wRetN, wNext, wBreak, wCont, wNever, wSet, wAsg, wPar, wExpr, wFor, wApp, wPop, wSetIx, wVar, wBor, wTake, wC, wBin, wNil, wCons, wPrim, wCall, wTup, wLst, wSl, wNone, wSome, wM0, wM1, wB, wAndT, wOrT, wNotT, wAndV, wOrV, wNotV, wIf, wIsi, wIsi2, wNeg, wChain, wSortedSet, X_txl, X_txt, wIt, wIt.rdf, wRng1, wRng2, wLc, wYes, lcS, wipeG, backG, noMut, rd_d, rd_o, rd_b, rdf_d, rdf_o, fz_d, fz_o, fz_b, sl_d, sl_o, ok_d, ok_o, argSl_d, argSl_o, argSl_b, items_l, items_t, items_s, rds, rdF, stOk_eq, ncO_some, nc_v, nc_own, nc_no, stOks, setAll, wG, mutAt, putAt, Sl.mu, Sl.put, argSls, noB, fewB, putB, endP, cellsOf, cellF, List.getElem?_cons_zero, List.getElem?_cons_succ, List.getElem?_nil, List.set_cons_zero, List.set_cons_succ, List.append_eq, List.nil_append, List.cons_append, List.replicate, List.take_succ_cons, List.take_zero, List.take_nil, List.filterMap_cons, List.filterMap_nil, Option.map_some, Option.map_none, List.length_cons, List.length_nil, F_add_i, F_add_s, F_add_l, F_add_t, F_int, F_cmp_i, F_cmp_s, F_in_l, F_in_t, F_in_s, F_ix_l, F_ix_t, F_ix_s, F_sl_l, F_sl_t, F_sl_s, F_len_l, F_len_t, F_len_s, F_toInt, F_toStr, F_toTup_l, F_toTup_t, F_toLst_l, F_toLst_t, F_all, F_any, F_split, F_join_l, F_join_t, F_part, F_start, F_end, F_strip, F_sorted_l, F_sorted_t, N_none, N_str, N_int, N_bool, N_tup, N_lst, S_str, S_none, S_int, S_bool, S_tup, S_lst, I_str, I_none, I_int, I_bool, I_tup, I_lst, B_str, B_none, B_int, B_bool, B_tup, B_lst, T_str, T_none, T_int, T_bool, T_tup, T_lst, L_str, L_none, L_int, L_bool, L_tup, L_lst, D_str, D_none, D_int, D_bool, D_tup, D_lst, N_dic, S_dic, I_dic, B_dic, T_dic, L_dic, D_dic, E_ss, E_ii, E_bb, E_ns, E_is, E_bs, E_nn, isA_str, isA_int, isA_bool, isA_tuple, isA_list, isA_dict, fEq, fNe, fIsN, fNotN, eqv_str, eqv_int, eqv_bool, exists_eq_left', exists_eq_left, exists_and_left, R.d.injEq, R.o.injEq, PyData.bool.injEq, PyData.str.injEq, PyData.int.injEq, PyData.tuple.injEq, PyData.list.injEq, List.cons.injEq, Option.some.injEq, and_true, true_and, and_self, Bool.not_true, Bool.not_false, Bool.false_eq_true, Bool.true_eq_false, Bool.true_and, Bool.false_and, Bool.true_or, Bool.false_or, if_true, if_false, reduceIte, reduceCtorEq, not_false_eq_true, ne_eq, true_or, or_true, false_or, or_false, List.map_nil, List.map_cons, Option.toList_some, Option.toList_none, false_and, and_false, Bool.not_eq_true, Bool.or_false, Bool.or_true, Bool.and_true, Bool.and_false]
    exact ⟨cmulR _ _, cmulR _ _, by decide, cmulR _ _, by decide, hl, hm _⟩

def w__law_take_1 : WS := (wRet (wCall (fs__law_draw) (wCons (wVar 0) (wCons (wBin fSub (wBin fIx (wBor 1) (wC (PyData.int 0))) (wC (PyData.int 1))) (wCons (wVar 2) wNil)))))
def w__law_take : WS := (wSeq (wSetIx 1 (wBin fAdd (wBin fIx (wBor 1) (wC (PyData.int 0))) (wC (PyData.int 1))) (wC (PyData.int 0))) w__law_take_1)

/-- a draw from row at spot: some number below the limit -/
def fs__law_take : FS := fun as Q _ => ∃ (row : List Int) (k lim : Int), as = [.v (.list (row.map .int)), .cell [.int k], .v (.int lim)] ∧ 0 < row.length ∧ 0 ≤ k ∧ 0 < lim ∧ ∀ r : Int, 0 ≤ r → r < lim → Q (.d (.int r)) [[.int (k + 1)]]
theorem l__law_take : ∀ as Q X, fs__law_take as Q X → as.length = 3 := by rintro as Q X ⟨_, _, _, rfl, _⟩; rfl
theorem m__law_take : ∀ as Q X, fs__law_take as Q X → w__law_take (as ++ List.replicate 0 Sl.no) (endP 3 Q X) := by
  rintro as Q X ⟨row, k, lim, rfl, hr, hk, hl, h⟩
  have i0 : ∀ j : Int, atI [PyData.int j] 0 = some (.int j) := fun _ => rfl
  simp only [w__law_take, w__law_take_1, wSeq, wIfS, wRet, wRetN, wNext, wBreak, wCont, wNever, wSet, wAsg, wPar, wExpr, wFor, wApp, wPop, wSetIx, wVar, wBor, wTake, wC, wBin, wNil, wCons, wPrim, wCall, wTup, wLst, wSl, wNone, wSome, wM0, wM1, wB, wAndT, wOrT, wNotT, wAndV, wOrV, wNotV, wIf, wIsi, wIsi2, wNeg, wChain, wSortedSet, X_txl, X_txt, wIt, wIt.rdf, wRng1, wRng2, wLc, wYes, lcS, wipeG, backG, noMut, rd_d, rd_o, rd_b, rdf_d, rdf_o, fz_d, fz_o, fz_b, sl_d, sl_o, ok_d, ok_o, argSl_d, argSl_o, argSl_b, items_l, items_t, items_s, rds, rdF, stOk_eq, ncO_some, nc_v, nc_own, nc_no, stOks, setAll, wG, mutAt, putAt, Sl.mu, Sl.put, argSls, noB, fewB, putB, endP, cellsOf, cellF, List.getElem?_cons_zero, List.getElem?_cons_succ, List.getElem?_nil, List.set_cons_zero, List.set_cons_succ, List.append_eq, List.nil_append, List.cons_append, List.replicate, List.take_succ_cons, List.take_zero, List.take_nil, List.filterMap_cons, List.filterMap_nil, Option.map_some, Option.map_none, List.length_cons, List.length_nil, F_add_i, F_add_s, F_add_l, F_add_t, F_int, F_cmp_i, F_cmp_s, F_in_l, F_in_t, F_in_s, F_ix_l, F_ix_t, F_ix_s, F_sl_l, F_sl_t, F_sl_s, F_len_l, F_len_t, F_len_s, F_toInt, F_toStr, F_toTup_l, F_toTup_t, F_toLst_l, F_toLst_t, F_all, F_any, F_split, F_join_l, F_join_t, F_part, F_start, F_end, F_strip, F_sorted_l, F_sorted_t, N_none, N_str, N_int, N_bool, N_tup, N_lst, S_str, S_none, S_int, S_bool, S_tup, S_lst, I_str, I_none, I_int, I_bool, I_tup, I_lst, B_str, B_none, B_int, B_bool, B_tup, B_lst, T_str, T_none, T_int, T_bool, T_tup, T_lst, L_str, L_none, L_int, L_bool, L_tup, L_lst, D_str, D_none, D_int, D_bool, D_tup, D_lst, N_dic, S_dic, I_dic, B_dic, T_dic, L_dic, D_dic, E_ss, E_ii, E_bb, E_ns, E_is, E_bs, E_nn, isA_str, isA_int, isA_bool, isA_tuple, isA_list, isA_dict, fEq, fNe, fIsN, fNotN, eqv_str, eqv_int, eqv_bool, exists_eq_left', exists_eq_left, exists_and_left, R.d.injEq, R.o.injEq, PyData.bool.injEq, PyData.str.injEq, PyData.int.injEq, PyData.tuple.injEq, PyData.list.injEq, List.cons.injEq, Option.some.injEq, and_true, true_and, and_self, Bool.not_true, Bool.not_false, Bool.false_eq_true, Bool.true_eq_false, Bool.true_and, Bool.false_and, Bool.true_or, Bool.false_or, if_true, if_false, reduceIte, reduceCtorEq, not_false_eq_true, ne_eq, true_or, or_true, false_or, or_false, List.map_nil, List.map_cons, Option.toList_some, Option.toList_none, false_and, and_false, Bool.not_eq_true, Bool.or_false, Bool.or_true, Bool.and_true, Bool.and_false, i0, exists_eq', fs__law_draw]
  refine ⟨0, rfl, .int (k + 1), rfl, ?_⟩
  simp only [wSeq, wIfS, wRet, wRetN, wNext, wBreak, wCont, wNever, wSet, wAsg, wPar, wExpr, wFor, wApp, wPop, wSetIx, wVar, wBor, wTake, wC, wBin, wNil, wCons, wPrim, wCall, wTup, wLst, wSl, wNone, wSome, wM0, wM1, wB, wAndT, wOrT, wNotT, wAndV, wOrV, wNotV, wIf, wIsi, wIsi2, wNeg, wChain, wSortedSet, X_txl, X_txt, wIt, wIt.rdf, wRng1, wRng2, wLc, wYes, lcS, wipeG, backG, noMut, rd_d, rd_o, rd_b, rdf_d, rdf_o, fz_d, fz_o, fz_b, sl_d, sl_o, ok_d, ok_o, argSl_d, argSl_o, argSl_b, items_l, items_t, items_s, rds, rdF, stOk_eq, ncO_some, nc_v, nc_own, nc_no, stOks, setAll, wG, mutAt, putAt, Sl.mu, Sl.put, argSls, noB, fewB, putB, endP, cellsOf, cellF, List.getElem?_cons_zero, List.getElem?_cons_succ, List.getElem?_nil, List.set_cons_zero, List.set_cons_succ, List.append_eq, List.nil_append, List.cons_append, List.replicate, List.take_succ_cons, List.take_zero, List.take_nil, List.filterMap_cons, List.filterMap_nil, Option.map_some, Option.map_none, List.length_cons, List.length_nil, F_add_i, F_add_s, F_add_l, F_add_t, F_int, F_cmp_i, F_cmp_s, F_in_l, F_in_t, F_in_s, F_ix_l, F_ix_t, F_ix_s, F_sl_l, F_sl_t, F_sl_s, F_len_l, F_len_t, F_len_s, F_toInt, F_toStr, F_toTup_l, F_toTup_t, F_toLst_l, F_toLst_t, F_all, F_any, F_split, F_join_l, F_join_t, F_part, F_start, F_end, F_strip, F_sorted_l, F_sorted_t, N_none, N_str, N_int, N_bool, N_tup, N_lst, S_str, S_none, S_int, S_bool, S_tup, S_lst, I_str, I_none, I_int, I_bool, I_tup, I_lst, B_str, B_none, B_int, B_bool, B_tup, B_lst, T_str, T_none, T_int, T_bool, T_tup, T_lst, L_str, L_none, L_int, L_bool, L_tup, L_lst, D_str, D_none, D_int, D_bool, D_tup, D_lst, N_dic, S_dic, I_dic, B_dic, T_dic, L_dic, D_dic, E_ss, E_ii, E_bb, E_ns, E_is, E_bs, E_nn, isA_str, isA_int, isA_bool, isA_tuple, isA_list, isA_dict, fEq, fNe, fIsN, fNotN, eqv_str, eqv_int, eqv_bool, exists_eq_left', exists_eq_left, exists_and_left, R.d.injEq, R.o.injEq, PyData.bool.injEq, PyData.str.injEq, PyData.int.injEq, PyData.tuple.injEq, PyData.list.injEq, List.cons.injEq, Option.some.injEq, and_true, true_and, and_self, Bool.not_true, Bool.not_false, Bool.false_eq_true, Bool.true_eq_false, Bool.true_and, Bool.false_and, Bool.true_or, Bool.false_or, if_true, if_false, reduceIte, reduceCtorEq, not_false_eq_true, ne_eq, true_or, or_true, false_or, or_false, List.map_nil, List.map_cons, Option.toList_some, Option.toList_none, false_and, and_false, Bool.not_eq_true, Bool.or_false, Bool.or_true, Bool.and_true, Bool.and_false]
  refine ⟨row, _, lim, ⟨rfl, rfl, rfl⟩, hr, ?_, hl, fun r h0 h1 => h r h0 h1⟩
  omega

def w__law_letters_1 : WS := (wSet (wBin fAdd (wBor 4) (wBin fIx (wBor 3) (wCall (fs__law_take) (wCons (wVar 0) (wCons (wBor 1) (wCons (wPrim fLen (wCons (wBor 3) wNil)) wNil)))))) 4)
def w__law_letters_2 : WS := (wRet (wTake 4))
def w__law_letters_3 : WS := (wSeq (wFor (wRng1 (wCons (wVar 2) wNil)) (.n 5) w__law_letters_1) w__law_letters_2)
def w__law_letters : WS := (wSeq (wSet (wC (PyData.str "")) 4) w__law_letters_3)

/-- a text of as many signs as asked, out of the given signs -/
def fs__law_letters : FS := fun as Q _ => ∃ (row : List Int) (k many : Int) (signs : Str), as = [.v (.list (row.map .int)), .cell [.int k], .v (.int many), .v (.str signs)] ∧ 0 < row.length ∧ 0 ≤ k ∧ 0 ≤ many ∧ many ≤ 100000 ∧ 0 < signs.length ∧ signs.length ≤ 100000 ∧
  ∀ (cs : List Nat) (k' : Int), 0 ≤ k' → (cs.length : Int) = many → (∀ c ∈ cs, c ∈ signs.cps.toList) → Q (.d (.str ⟨cs.toArray⟩)) [[.int k']]
theorem l__law_letters : ∀ as Q X, fs__law_letters as Q X → as.length = 4 := by rintro as Q X ⟨_, _, _, _, rfl, _⟩; rfl
theorem m__law_letters : ∀ as Q X, fs__law_letters as Q X → w__law_letters (as ++ List.replicate 2 Sl.no) (endP 4 Q X) := by
  rintro as Q X ⟨row, k, many, signs, rfl, hr, hk, hm, hm2, hs, hs2, h⟩
  simp only [w__law_letters, w__law_letters_3, wSeq, wIfS, wRet, wRetN, wNext, wBreak, wCont, wNever, wSet, wAsg, wPar, wExpr, wFor, wApp, wPop, wSetIx, wVar, wBor, wTake, wC, wBin, wNil, wCons, wPrim, wCall, wTup, wLst, wSl, wNone, wSome, wM0, wM1, wB, wAndT, wOrT, wNotT, wAndV, wOrV, wNotV, wIf, wIsi, wIsi2, wNeg, wChain, wSortedSet, X_txl, X_txt, wIt, wIt.rdf, wRng1, wRng2, wLc, wYes, lcS, wipeG, backG, noMut, rd_d, rd_o, rd_b, rdf_d, rdf_o, fz_d, fz_o, fz_b, sl_d, sl_o, ok_d, ok_o, argSl_d, argSl_o, argSl_b, items_l, items_t, items_s, rds, rdF, stOk_eq, ncO_some, nc_v, nc_own, nc_no, stOks, setAll, wG, mutAt, putAt, Sl.mu, Sl.put, argSls, noB, fewB, putB, endP, cellsOf, cellF, List.getElem?_cons_zero, List.getElem?_cons_succ, List.getElem?_nil, List.set_cons_zero, List.set_cons_succ, List.append_eq, List.nil_append, List.cons_append, List.replicate, List.take_succ_cons, List.take_zero, List.take_nil, List.filterMap_cons, List.filterMap_nil, Option.map_some, Option.map_none, List.length_cons, List.length_nil, F_add_i, F_add_s, F_add_l, F_add_t, F_int, F_cmp_i, F_cmp_s, F_in_l, F_in_t, F_in_s, F_ix_l, F_ix_t, F_ix_s, F_sl_l, F_sl_t, F_sl_s, F_len_l, F_len_t, F_len_s, F_toInt, F_toStr, F_toTup_l, F_toTup_t, F_toLst_l, F_toLst_t, F_all, F_any, F_split, F_join_l, F_join_t, F_part, F_start, F_end, F_strip, F_sorted_l, F_sorted_t, N_none, N_str, N_int, N_bool, N_tup, N_lst, S_str, S_none, S_int, S_bool, S_tup, S_lst, I_str, I_none, I_int, I_bool, I_tup, I_lst, B_str, B_none, B_int, B_bool, B_tup, B_lst, T_str, T_none, T_int, T_bool, T_tup, T_lst, L_str, L_none, L_int, L_bool, L_tup, L_lst, D_str, D_none, D_int, D_bool, D_tup, D_lst, N_dic, S_dic, I_dic, B_dic, T_dic, L_dic, D_dic, E_ss, E_ii, E_bb, E_ns, E_is, E_bs, E_nn, isA_str, isA_int, isA_bool, isA_tuple, isA_list, isA_dict, fEq, fNe, fIsN, fNotN, eqv_str, eqv_int, eqv_bool, exists_eq_left', exists_eq_left, exists_and_left, R.d.injEq, R.o.injEq, PyData.bool.injEq, PyData.str.injEq, PyData.int.injEq, PyData.tuple.injEq, PyData.list.injEq, List.cons.injEq, Option.some.injEq, and_true, true_and, and_self, Bool.not_true, Bool.not_false, Bool.false_eq_true, Bool.true_eq_false, Bool.true_and, Bool.false_and, Bool.true_or, Bool.false_or, if_true, if_false, reduceIte, reduceCtorEq, not_false_eq_true, ne_eq, true_or, or_true, false_or, or_false, List.map_nil, List.map_cons, Option.toList_some, Option.toList_none, false_and, and_false, Bool.not_eq_true, Bool.or_false, Bool.or_true, Bool.and_true, Bool.and_false]
  refine ⟨⟨by omega, by omega⟩, ?_⟩
  refine forI_E (List.range many.toNat) (fun (i : Nat) => PyData.int (0 + i)) (fun pre Γ => ∃ (cs : List Nat) (j : Int) (e : Sl), Γ = [.v (.list (row.map .int)), .cell [.int j], .v (.int many), .v (.str signs), .v (.str ⟨cs.toArray⟩), e] ∧ nc e ∧ 0 ≤ j ∧ cs.length = pre.length ∧ ∀ c ∈ cs, c ∈ signs.cps.toList) rfl ⟨[], k, _, rfl, trivial, hk, rfl, by simp⟩ ?_ ?_
  · rintro pre x post _ q ⟨cs, j, e, rfl, ne, hj, hl, hc⟩ N hN
    have hp : pre.length < many.toNat := by
      have := congrArg List.length q
      simp only [List.length_range, List.length_append, List.length_cons] at this
      omega
    have hz : signs.length ≤ sizeLine := Nat.le_trans hs2 (by decide)
    simp only [w__law_letters_1, fs__law_take, wSeq, wIfS, wRet, wRetN, wNext, wBreak, wCont, wNever, wSet, wAsg, wPar, wExpr, wFor, wApp, wPop, wSetIx, wVar, wBor, wTake, wC, wBin, wNil, wCons, wPrim, wCall, wTup, wLst, wSl, wNone, wSome, wM0, wM1, wB, wAndT, wOrT, wNotT, wAndV, wOrV, wNotV, wIf, wIsi, wIsi2, wNeg, wChain, wSortedSet, X_txl, X_txt, wIt, wIt.rdf, wRng1, wRng2, wLc, wYes, lcS, wipeG, backG, noMut, rd_d, rd_o, rd_b, rdf_d, rdf_o, fz_d, fz_o, fz_b, sl_d, sl_o, ok_d, ok_o, argSl_d, argSl_o, argSl_b, items_l, items_t, items_s, rds, rdF, stOk_eq, ncO_some, nc_v, nc_own, nc_no, stOks, setAll, wG, mutAt, putAt, Sl.mu, Sl.put, argSls, noB, fewB, putB, endP, cellsOf, cellF, List.getElem?_cons_zero, List.getElem?_cons_succ, List.getElem?_nil, List.set_cons_zero, List.set_cons_succ, List.append_eq, List.nil_append, List.cons_append, List.replicate, List.take_succ_cons, List.take_zero, List.take_nil, List.filterMap_cons, List.filterMap_nil, Option.map_some, Option.map_none, List.length_cons, List.length_nil, F_add_i, F_add_s, F_add_l, F_add_t, F_int, F_cmp_i, F_cmp_s, F_in_l, F_in_t, F_in_s, F_ix_l, F_ix_t, F_ix_s, F_sl_l, F_sl_t, F_sl_s, F_len_l, F_len_t, F_len_s, F_toInt, F_toStr, F_toTup_l, F_toTup_t, F_toLst_l, F_toLst_t, F_all, F_any, F_split, F_join_l, F_join_t, F_part, F_start, F_end, F_strip, F_sorted_l, F_sorted_t, N_none, N_str, N_int, N_bool, N_tup, N_lst, S_str, S_none, S_int, S_bool, S_tup, S_lst, I_str, I_none, I_int, I_bool, I_tup, I_lst, B_str, B_none, B_int, B_bool, B_tup, B_lst, T_str, T_none, T_int, T_bool, T_tup, T_lst, L_str, L_none, L_int, L_bool, L_tup, L_lst, D_str, D_none, D_int, D_bool, D_tup, D_lst, N_dic, S_dic, I_dic, B_dic, T_dic, L_dic, D_dic, E_ss, E_ii, E_bb, E_ns, E_is, E_bs, E_nn, isA_str, isA_int, isA_bool, isA_tuple, isA_list, isA_dict, fEq, fNe, fIsN, fNotN, eqv_str, eqv_int, eqv_bool, exists_eq_left', exists_eq_left, exists_and_left, R.d.injEq, R.o.injEq, PyData.bool.injEq, PyData.str.injEq, PyData.int.injEq, PyData.tuple.injEq, PyData.list.injEq, List.cons.injEq, Option.some.injEq, and_true, true_and, and_self, Bool.not_true, Bool.not_false, Bool.false_eq_true, Bool.true_eq_false, Bool.true_and, Bool.false_and, Bool.true_or, Bool.false_or, if_true, if_false, reduceIte, reduceCtorEq, not_false_eq_true, ne_eq, true_or, or_true, false_or, or_false, List.map_nil, List.map_cons, Option.toList_some, Option.toList_none, false_and, and_false, Bool.not_eq_true, Bool.or_false, Bool.or_true, Bool.and_true, Bool.and_false, ne, hz]
    refine ⟨row, j, _, ⟨rfl, rfl, rfl⟩, hr, hj, by omega, fun r h0 h1 => ?_⟩
    have hr2 : r.toNat < signs.cps.toList.length := by simp only [Array.length_toList]; unfold Str.length at h1; omega
    refine ⟨signs.cps.toList[r.toNat], ?_, ?_, ?_⟩
    · have := atI_nat (xs := signs.cps.toList) (k := r.toNat) (x := signs.cps.toList[r.toNat]) (List.getElem?_eq_getElem hr2)
      rwa [show ((r.toNat : Nat) : Int) = r by omega] at this
    · have : ∀ c, (sg c).length = 1 := fun _ => rfl
      rw [this]
      refine Nat.le_trans (show _ ≤ 100001 from ?_) (by decide)
      show cs.toArray.size + 1 ≤ _
      simp only [List.size_toArray]
      omega
    · refine hN _ ⟨cs ++ [signs.cps.toList[r.toNat]], j + 1, .v (.int (0 + (x : Int))), ?_, trivial, by omega, by simp [hl], ?_⟩
      · have : (⟨cs.toArray⟩ : Str) ++ sg signs.cps.toList[r.toNat] = ⟨(cs ++ [signs.cps.toList[r.toNat]]).toArray⟩ := by
          show (⟨cs.toArray ++ #[signs.cps.toList[r.toNat]]⟩ : Str) = _
          simp
        rw [this]
      · intro c hcc
        rcases List.mem_append.mp hcc with z | z
        · exact hc c z
        · rw [List.mem_singleton.mp z]; exact List.getElem_mem _
  · rintro _ ⟨cs, j, e, rfl, ne, hj, hl, hc⟩
    simp only [w__law_letters_2, wSeq, wIfS, wRet, wRetN, wNext, wBreak, wCont, wNever, wSet, wAsg, wPar, wExpr, wFor, wApp, wPop, wSetIx, wVar, wBor, wTake, wC, wBin, wNil, wCons, wPrim, wCall, wTup, wLst, wSl, wNone, wSome, wM0, wM1, wB, wAndT, wOrT, wNotT, wAndV, wOrV, wNotV, wIf, wIsi, wIsi2, wNeg, wChain, wSortedSet, X_txl, X_txt, wIt, wIt.rdf, wRng1, wRng2, wLc, wYes, lcS, wipeG, backG, noMut, rd_d, rd_o, rd_b, rdf_d, rdf_o, fz_d, fz_o, fz_b, sl_d, sl_o, ok_d, ok_o, argSl_d, argSl_o, argSl_b, items_l, items_t, items_s, rds, rdF, stOk_eq, ncO_some, nc_v, nc_own, nc_no, stOks, setAll, wG, mutAt, putAt, Sl.mu, Sl.put, argSls, noB, fewB, putB, endP, cellsOf, cellF, List.getElem?_cons_zero, List.getElem?_cons_succ, List.getElem?_nil, List.set_cons_zero, List.set_cons_succ, List.append_eq, List.nil_append, List.cons_append, List.replicate, List.take_succ_cons, List.take_zero, List.take_nil, List.filterMap_cons, List.filterMap_nil, Option.map_some, Option.map_none, List.length_cons, List.length_nil, F_add_i, F_add_s, F_add_l, F_add_t, F_int, F_cmp_i, F_cmp_s, F_in_l, F_in_t, F_in_s, F_ix_l, F_ix_t, F_ix_s, F_sl_l, F_sl_t, F_sl_s, F_len_l, F_len_t, F_len_s, F_toInt, F_toStr, F_toTup_l, F_toTup_t, F_toLst_l, F_toLst_t, F_all, F_any, F_split, F_join_l, F_join_t, F_part, F_start, F_end, F_strip, F_sorted_l, F_sorted_t, N_none, N_str, N_int, N_bool, N_tup, N_lst, S_str, S_none, S_int, S_bool, S_tup, S_lst, I_str, I_none, I_int, I_bool, I_tup, I_lst, B_str, B_none, B_int, B_bool, B_tup, B_lst, T_str, T_none, T_int, T_bool, T_tup, T_lst, L_str, L_none, L_int, L_bool, L_tup, L_lst, D_str, D_none, D_int, D_bool, D_tup, D_lst, N_dic, S_dic, I_dic, B_dic, T_dic, L_dic, D_dic, E_ss, E_ii, E_bb, E_ns, E_is, E_bs, E_nn, isA_str, isA_int, isA_bool, isA_tuple, isA_list, isA_dict, fEq, fNe, fIsN, fNotN, eqv_str, eqv_int, eqv_bool, exists_eq_left', exists_eq_left, exists_and_left, R.d.injEq, R.o.injEq, PyData.bool.injEq, PyData.str.injEq, PyData.int.injEq, PyData.tuple.injEq, PyData.list.injEq, List.cons.injEq, Option.some.injEq, and_true, true_and, and_self, Bool.not_true, Bool.not_false, Bool.false_eq_true, Bool.true_eq_false, Bool.true_and, Bool.false_and, Bool.true_or, Bool.false_or, if_true, if_false, reduceIte, reduceCtorEq, not_false_eq_true, ne_eq, true_or, or_true, false_or, or_false, List.map_nil, List.map_cons, Option.toList_some, Option.toList_none, false_and, and_false, Bool.not_eq_true, Bool.or_false, Bool.or_true, Bool.and_true, Bool.and_false]
    exact h cs j hj (by rw [hl, List.length_range]; omega) hc

def w__law_item_1 : WS := (wRet (wTake 2))
def w__law_item_2 : WS := (wSeq (wIfS (wB (wBin fEq (wBin fIx (wBor 2) (wBin fSub (wPrim fLen (wCons (wBor 2) wNil)) (wC (PyData.int 1)))) (wC (PyData.str ".")))) (wSet (wBin fAdd (wSl fSl (wBor 2) wNone (wSome (wBin fSub (wPrim fLen (wCons (wBor 2) wNil)) (wC (PyData.int 1))))) (wC (PyData.str "q"))) 2) wNext) w__law_item_1)
def w__law_item_3 : WS := (wSeq (wSet (wCall (fs__law_letters) (wCons (wVar 0) (wCons (wBor 1) (wCons (wBin fAdd (wC (PyData.int 1)) (wCall (fs__law_take) (wCons (wVar 0) (wCons (wBor 1) (wCons (wC (PyData.int 40)) wNil))))) (wCons (wC (PyData.str "abzAZ019_-/.:@")) wNil))))) 2) w__law_item_2)
def w__law_item : WS := (wSeq (wIfS (wB (wBin fGt (wCall (fs__law_take) (wCons (wVar 0) (wCons (wBor 1) (wCons (wC (PyData.int 3)) wNil)))) (wC (PyData.int 0)))) (wRet (wBin fIx (wLst (wCons (wC (PyData.str "a")) (wCons (wC (PyData.str "b")) (wCons (wC (PyData.str "c")) (wCons (wC (PyData.str "d")) (wCons (wC (PyData.str "new0")) (wCons (wC (PyData.str "new1")) (wCons (wC (PyData.str "x-1")) (wCons (wC (PyData.str "h.x:80")) (wCons (wC (PyData.str "/u/v")) (wCons (wC (PyData.str "@")) wNil))))))))))) (wCall (fs__law_take) (wCons (wVar 0) (wCons (wBor 1) (wCons (wC (PyData.int 10)) wNil)))))) wNext) w__law_item_3)

def tenItems : List Str := ["a", "b", "c", "d", "new0", "new1", "x-1", "h.x:80", "/u/v", "@"]
/-- a draw of an item -/
def fs__law_item : FS := fun as Q _ => ∃ (row : List Int) (k : Int), as = [.v (.list (row.map .int)), .cell [.int k]] ∧ 0 < row.length ∧ 0 ≤ k ∧ ∀ (s : Str) (k' : Int), 0 ≤ k' → isIt s → Q (.d (.str s)) [[.int k']]
theorem l__law_item : ∀ as Q X, fs__law_item as Q X → as.length = 2 := by rintro as Q X ⟨_, _, rfl, _⟩; rfl
theorem ten_it : ∀ s ∈ tenItems, isIt s := by
  have : (tenItems.all fun s => okS s && isItemS s) = true := by decide +kernel
  intro s hs
  have := List.all_eq_true.mp this s hs
  rwa [Bool.and_eq_true] at this
theorem sg_okc : ((Str.ofString "abzAZ019_-/.:@").cps.toList.all okc) = true := by decide +kernel
theorem m__law_item : ∀ as Q X, fs__law_item as Q X → w__law_item (as ++ List.replicate 1 Sl.no) (endP 2 Q X) := by
  rintro as Q X ⟨row, k, rfl, hr, hk, h⟩
  simp only [w__law_item, fs__law_take, wSeq, wIfS, wRet, wRetN, wNext, wBreak, wCont, wNever, wSet, wAsg, wPar, wExpr, wFor, wApp, wPop, wSetIx, wVar, wBor, wTake, wC, wBin, wNil, wCons, wPrim, wCall, wTup, wLst, wSl, wNone, wSome, wM0, wM1, wB, wAndT, wOrT, wNotT, wAndV, wOrV, wNotV, wIf, wIsi, wIsi2, wNeg, wChain, wSortedSet, X_txl, X_txt, wIt, wIt.rdf, wRng1, wRng2, wLc, wYes, lcS, wipeG, backG, noMut, rd_d, rd_o, rd_b, rdf_d, rdf_o, fz_d, fz_o, fz_b, sl_d, sl_o, ok_d, ok_o, argSl_d, argSl_o, argSl_b, items_l, items_t, items_s, rds, rdF, stOk_eq, ncO_some, nc_v, nc_own, nc_no, stOks, setAll, wG, mutAt, putAt, Sl.mu, Sl.put, argSls, noB, fewB, putB, endP, cellsOf, cellF, List.getElem?_cons_zero, List.getElem?_cons_succ, List.getElem?_nil, List.set_cons_zero, List.set_cons_succ, List.append_eq, List.nil_append, List.cons_append, List.replicate, List.take_succ_cons, List.take_zero, List.take_nil, List.filterMap_cons, List.filterMap_nil, Option.map_some, Option.map_none, List.length_cons, List.length_nil, F_add_i, F_add_s, F_add_l, F_add_t, F_int, F_cmp_i, F_cmp_s, F_in_l, F_in_t, F_in_s, F_ix_l, F_ix_t, F_ix_s, F_sl_l, F_sl_t, F_sl_s, F_len_l, F_len_t, F_len_s, F_toInt, F_toStr, F_toTup_l, F_toTup_t, F_toLst_l, F_toLst_t, F_all, F_any, F_split, F_join_l, F_join_t, F_part, F_start, F_end, F_strip, F_sorted_l, F_sorted_t, N_none, N_str, N_int, N_bool, N_tup, N_lst, S_str, S_none, S_int, S_bool, S_tup, S_lst, I_str, I_none, I_int, I_bool, I_tup, I_lst, B_str, B_none, B_int, B_bool, B_tup, B_lst, T_str, T_none, T_int, T_bool, T_tup, T_lst, L_str, L_none, L_int, L_bool, L_tup, L_lst, D_str, D_none, D_int, D_bool, D_tup, D_lst, N_dic, S_dic, I_dic, B_dic, T_dic, L_dic, D_dic, E_ss, E_ii, E_bb, E_ns, E_is, E_bs, E_nn, isA_str, isA_int, isA_bool, isA_tuple, isA_list, isA_dict, fEq, fNe, fIsN, fNotN, eqv_str, eqv_int, eqv_bool, exists_eq_left', exists_eq_left, exists_and_left, R.d.injEq, R.o.injEq, PyData.bool.injEq, PyData.str.injEq, PyData.int.injEq, PyData.tuple.injEq, PyData.list.injEq, List.cons.injEq, Option.some.injEq, and_true, true_and, and_self, Bool.not_true, Bool.not_false, Bool.false_eq_true, Bool.true_eq_false, Bool.true_and, Bool.false_and, Bool.true_or, Bool.false_or, if_true, if_false, reduceIte, reduceCtorEq, not_false_eq_true, ne_eq, true_or, or_true, false_or, or_false, List.map_nil, List.map_cons, Option.toList_some, Option.toList_none, false_and, and_false, Bool.not_eq_true, Bool.or_false, Bool.or_true, Bool.and_true, Bool.and_false]
  refine ⟨row, k, _, ⟨rfl, rfl, rfl⟩, hr, hk, by decide, fun r0 h00 h01 => ?_⟩
  split
  · refine ⟨by decide, row, _, _, ⟨rfl, rfl, rfl⟩, hr, by omega, by decide, fun r h0 h1 => ?_⟩
    obtain ⟨x, hx, ha⟩ := atI_map PyData.str tenItems h0 h1
    exact ⟨_, ha, h x _ (by omega) (ten_it x hx)⟩
  · simp only [w__law_item_3, w__law_item_2, w__law_item_1, fs__law_take, fs__law_letters, wSeq, wIfS, wRet, wRetN, wNext, wBreak, wCont, wNever, wSet, wAsg, wPar, wExpr, wFor, wApp, wPop, wSetIx, wVar, wBor, wTake, wC, wBin, wNil, wCons, wPrim, wCall, wTup, wLst, wSl, wNone, wSome, wM0, wM1, wB, wAndT, wOrT, wNotT, wAndV, wOrV, wNotV, wIf, wIsi, wIsi2, wNeg, wChain, wSortedSet, X_txl, X_txt, wIt, wIt.rdf, wRng1, wRng2, wLc, wYes, lcS, wipeG, backG, noMut, rd_d, rd_o, rd_b, rdf_d, rdf_o, fz_d, fz_o, fz_b, sl_d, sl_o, ok_d, ok_o, argSl_d, argSl_o, argSl_b, items_l, items_t, items_s, rds, rdF, stOk_eq, ncO_some, nc_v, nc_own, nc_no, stOks, setAll, wG, mutAt, putAt, Sl.mu, Sl.put, argSls, noB, fewB, putB, endP, cellsOf, cellF, List.getElem?_cons_zero, List.getElem?_cons_succ, List.getElem?_nil, List.set_cons_zero, List.set_cons_succ, List.append_eq, List.nil_append, List.cons_append, List.replicate, List.take_succ_cons, List.take_zero, List.take_nil, List.filterMap_cons, List.filterMap_nil, Option.map_some, Option.map_none, List.length_cons, List.length_nil, F_add_i, F_add_s, F_add_l, F_add_t, F_int, F_cmp_i, F_cmp_s, F_in_l, F_in_t, F_in_s, F_ix_l, F_ix_t, F_ix_s, F_sl_l, F_sl_t, F_sl_s, F_len_l, F_len_t, F_len_s, F_toInt, F_toStr, F_toTup_l, F_toTup_t, F_toLst_l, F_toLst_t, F_all, F_any, F_split, F_join_l, F_join_t, F_part, F_start, F_end, F_strip, F_sorted_l, F_sorted_t, N_none, N_str, N_int, N_bool, N_tup, N_lst, S_str, S_none, S_int, S_bool, S_tup, S_lst, I_str, I_none, I_int, I_bool, I_tup, I_lst, B_str, B_none, B_int, B_bool, B_tup, B_lst, T_str, T_none, T_int, T_bool, T_tup, T_lst, L_str, L_none, L_int, L_bool, L_tup, L_lst, D_str, D_none, D_int, D_bool, D_tup, D_lst, N_dic, S_dic, I_dic, B_dic, T_dic, L_dic, D_dic, E_ss, E_ii, E_bb, E_ns, E_is, E_bs, E_nn, isA_str, isA_int, isA_bool, isA_tuple, isA_list, isA_dict, fEq, fNe, fIsN, fNotN, eqv_str, eqv_int, eqv_bool, exists_eq_left', exists_eq_left, exists_and_left, R.d.injEq, R.o.injEq, PyData.bool.injEq, PyData.str.injEq, PyData.int.injEq, PyData.tuple.injEq, PyData.list.injEq, List.cons.injEq, Option.some.injEq, and_true, true_and, and_self, Bool.not_true, Bool.not_false, Bool.false_eq_true, Bool.true_eq_false, Bool.true_and, Bool.false_and, Bool.true_or, Bool.false_or, if_true, if_false, reduceIte, reduceCtorEq, not_false_eq_true, ne_eq, true_or, or_true, false_or, or_false, List.map_nil, List.map_cons, Option.toList_some, Option.toList_none, false_and, and_false, Bool.not_eq_true, Bool.or_false, Bool.or_true, Bool.and_true, Bool.and_false]
    refine ⟨row, _, _, ⟨rfl, rfl, rfl⟩, hr, by omega, by decide, fun r h0 h1 => ?_⟩
    refine ⟨row, _, _, _, ⟨rfl, rfl, rfl, rfl⟩, hr, by omega, by omega, by omega, by decide +kernel, by decide +kernel, fun cs k' hk' hl hc => ?_⟩
    have el : cs.length = (ofL cs).length := (ofL_len cs).symm
    have hl1 : 1 ≤ cs.length := by omega
    have hl2 : cs.length ≤ 40 := by omega
    have hc1 : ∀ c ∈ cs, okc c = true := fun c hcc => List.all_eq_true.mp sg_okc c (hc c hcc)
    have hz : (ofL cs).length ≤ sizeLine := by rw [ofL_len]; exact Nat.le_trans hl2 (by decide)
    obtain ⟨c, hcl⟩ : ∃ c, cs.getLast? = some c := by
      cases e : cs.getLast? with
      | some c => exact ⟨c, rfl⟩
      | none => rw [List.getLast?_eq_none_iff] at e; subst e; simp at hl1
    show (ofL cs).length ≤ sizeLine ∧ (ofL cs).length ≤ sizeLine ∧ ∃ c, atI cs ((ofL cs).length - 1) = some c ∧ if (sg c == Str.ofString ".") = true then (ofL cs).length ≤ sizeLine ∧ (ofL cs).length ≤ sizeLine ∧
      (cutS (ofL cs) none (some ((ofL cs).length - 1))).length + (Str.ofString "q").length ≤ sizeLine ∧ Q (R.d (.str (cutS (ofL cs) none (some ((ofL cs).length - 1)) ++ Str.ofString "q"))) [[.int k']] else Q (R.d (.str (ofL cs))) [[.int k']]
    refine ⟨hz, hz, c, by rw [ofL_len]; exact atI_pred hcl, ?_⟩
    rw [sg_eq cdot]
    split
    · have ec : cutS (ofL cs) none (some ((ofL cs).length - 1)) = ofL cs.dropLast := by rw [ofL_len]; exact cutS_init cs hl1
      have eq1 : Str.ofString "q" = ofL [113] := by decide +kernel
      rw [ec, eq1]
      refine ⟨hz, hz, ?_, ?_⟩
      · rw [ofL_len, ofL_len, List.length_dropLast]
        exact Nat.le_trans (show cs.length - 1 + 1 ≤ 40 by omega) (by decide)
      · rw [ofL_append]
        refine h _ _ hk' (isIt_codes ?_ ?_ ?_ ?_)
        · simp
        · simp only [List.length_append, List.length_dropLast, List.length_singleton]; omega
        · intro d hd
          rcases List.mem_append.mp hd with z | z
          · exact hc1 d (List.dropLast_subset _ z)
          · rw [List.mem_singleton.mp z]; decide +kernel
        · simp
    · rename_i hn
      refine h _ _ hk' (isIt_codes hl1 hl2 hc1 ?_)
      rw [hcl]
      simpa using hn

def w__law_items : WS := (wRet (wPrim fToTup (wCons (wLc (wRng1 (wCons (wBin fAdd (wBor 2) (wCall (fs__law_take) (wCons (wVar 0) (wCons (wBor 1) (wCons (wVar 3) wNil))))) wNil)) (.n 4) wYes (wCall (fs__law_item) (wCons (wVar 0) (wCons (wBor 1) wNil))) [4]) wNil)))

/-- a draw of items, least to least + many - 1 of them -/
def fs__law_items : FS := fun as Q _ => ∃ (row : List Int) (k least many : Int), as = [.v (.list (row.map .int)), .cell [.int k], .v (.int least), .v (.int many)] ∧ 0 < row.length ∧ 0 ≤ k ∧ 0 ≤ least ∧ least ≤ 1000 ∧ 0 < many ∧ many ≤ 1000 ∧
  ∀ (xs : List Str) (k' : Int), 0 ≤ k' → least ≤ xs.length → (xs.length : Int) < least + many → (∀ s ∈ xs, isIt s) → Q (.d (.tuple (txs xs))) [[.int k']]
theorem l__law_items : ∀ as Q X, fs__law_items as Q X → as.length = 4 := by rintro as Q X ⟨_, _, _, _, rfl, _⟩; rfl
theorem m__law_items : ∀ as Q X, fs__law_items as Q X → w__law_items (as ++ List.replicate 1 Sl.no) (endP 4 Q X) := by
  rintro as Q X ⟨row, k, least, many, rfl, hr, hk, hl, hl2, hm, hm2, h⟩
  simp only [w__law_items, fs__law_take, wSeq, wIfS, wRet, wRetN, wNext, wBreak, wCont, wNever, wSet, wAsg, wPar, wExpr, wFor, wApp, wPop, wSetIx, wVar, wBor, wTake, wC, wBin, wNil, wCons, wPrim, wCall, wTup, wLst, wSl, wNone, wSome, wM0, wM1, wB, wAndT, wOrT, wNotT, wAndV, wOrV, wNotV, wIf, wIsi, wIsi2, wNeg, wChain, wSortedSet, X_txl, X_txt, wIt, wIt.rdf, wRng1, wRng2, wLc, wYes, lcS, wipeG, backG, noMut, rd_d, rd_o, rd_b, rdf_d, rdf_o, fz_d, fz_o, fz_b, sl_d, sl_o, ok_d, ok_o, argSl_d, argSl_o, argSl_b, items_l, items_t, items_s, rds, rdF, stOk_eq, ncO_some, nc_v, nc_own, nc_no, stOks, setAll, wG, mutAt, putAt, Sl.mu, Sl.put, argSls, noB, fewB, putB, endP, cellsOf, cellF, List.getElem?_cons_zero, List.getElem?_cons_succ, List.getElem?_nil, List.set_cons_zero, List.set_cons_succ, List.append_eq, List.nil_append, List.cons_append, List.replicate, List.take_succ_cons, List.take_zero, List.take_nil, List.filterMap_cons, List.filterMap_nil, Option.map_some, Option.map_none, List.length_cons, List.length_nil, F_add_i, F_add_s, F_add_l, F_add_t, F_int, F_cmp_i, F_cmp_s, F_in_l, F_in_t, F_in_s, F_ix_l, F_ix_t, F_ix_s, F_sl_l, F_sl_t, F_sl_s, F_len_l, F_len_t, F_len_s, F_toInt, F_toStr, F_toTup_l, F_toTup_t, F_toLst_l, F_toLst_t, F_all, F_any, F_split, F_join_l, F_join_t, F_part, F_start, F_end, F_strip, F_sorted_l, F_sorted_t, N_none, N_str, N_int, N_bool, N_tup, N_lst, S_str, S_none, S_int, S_bool, S_tup, S_lst, I_str, I_none, I_int, I_bool, I_tup, I_lst, B_str, B_none, B_int, B_bool, B_tup, B_lst, T_str, T_none, T_int, T_bool, T_tup, T_lst, L_str, L_none, L_int, L_bool, L_tup, L_lst, D_str, D_none, D_int, D_bool, D_tup, D_lst, N_dic, S_dic, I_dic, B_dic, T_dic, L_dic, D_dic, E_ss, E_ii, E_bb, E_ns, E_is, E_bs, E_nn, isA_str, isA_int, isA_bool, isA_tuple, isA_list, isA_dict, fEq, fNe, fIsN, fNotN, eqv_str, eqv_int, eqv_bool, exists_eq_left', exists_eq_left, exists_and_left, R.d.injEq, R.o.injEq, PyData.bool.injEq, PyData.str.injEq, PyData.int.injEq, PyData.tuple.injEq, PyData.list.injEq, List.cons.injEq, Option.some.injEq, and_true, true_and, and_self, Bool.not_true, Bool.not_false, Bool.false_eq_true, Bool.true_eq_false, Bool.true_and, Bool.false_and, Bool.true_or, Bool.false_or, if_true, if_false, reduceIte, reduceCtorEq, not_false_eq_true, ne_eq, true_or, or_true, false_or, or_false, List.map_nil, List.map_cons, Option.toList_some, Option.toList_none, false_and, and_false, Bool.not_eq_true, Bool.or_false, Bool.or_true, Bool.and_true, Bool.and_false]
  refine ⟨row, k, _, ⟨rfl, rfl, rfl⟩, hr, hk, hm, fun r h0 h1 => ?_⟩
  refine ⟨⟨by omega, by omega⟩, ?_, ?_⟩
  · rw [rangeL_map, List.length_map, List.length_range]
    exact lz (by omega)
  refine lcI_E (List.range (least + r).toNat) (fun (i : Nat) => PyData.int (0 + i)) (fun pre acc Γ => ∃ (xs : List Str) (j : Int), acc = txs xs ∧ xs.length = pre.length ∧ (∀ s ∈ xs, isIt s) ∧ 0 ≤ j ∧
    Γ = [.v (.list (row.map .int)), .cell [.int j], .v (.int least), .v (.int many), .no]) rfl ⟨[], k + 1, rfl, rfl, by simp, by omega, rfl⟩ ?_ ?_
  · rintro pre x post acc _ q ⟨xs, j, rfl, hx, hi, hj, rfl⟩ Kn hKn
    simp only [fs__law_item, wSeq, wIfS, wRet, wRetN, wNext, wBreak, wCont, wNever, wSet, wAsg, wPar, wExpr, wFor, wApp, wPop, wSetIx, wVar, wBor, wTake, wC, wBin, wNil, wCons, wPrim, wCall, wTup, wLst, wSl, wNone, wSome, wM0, wM1, wB, wAndT, wOrT, wNotT, wAndV, wOrV, wNotV, wIf, wIsi, wIsi2, wNeg, wChain, wSortedSet, X_txl, X_txt, wIt, wIt.rdf, wRng1, wRng2, wLc, wYes, lcS, wipeG, backG, noMut, rd_d, rd_o, rd_b, rdf_d, rdf_o, fz_d, fz_o, fz_b, sl_d, sl_o, ok_d, ok_o, argSl_d, argSl_o, argSl_b, items_l, items_t, items_s, rds, rdF, stOk_eq, ncO_some, nc_v, nc_own, nc_no, stOks, setAll, wG, mutAt, putAt, Sl.mu, Sl.put, argSls, noB, fewB, putB, endP, cellsOf, cellF, List.getElem?_cons_zero, List.getElem?_cons_succ, List.getElem?_nil, List.set_cons_zero, List.set_cons_succ, List.append_eq, List.nil_append, List.cons_append, List.replicate, List.take_succ_cons, List.take_zero, List.take_nil, List.filterMap_cons, List.filterMap_nil, Option.map_some, Option.map_none, List.length_cons, List.length_nil, F_add_i, F_add_s, F_add_l, F_add_t, F_int, F_cmp_i, F_cmp_s, F_in_l, F_in_t, F_in_s, F_ix_l, F_ix_t, F_ix_s, F_sl_l, F_sl_t, F_sl_s, F_len_l, F_len_t, F_len_s, F_toInt, F_toStr, F_toTup_l, F_toTup_t, F_toLst_l, F_toLst_t, F_all, F_any, F_split, F_join_l, F_join_t, F_part, F_start, F_end, F_strip, F_sorted_l, F_sorted_t, N_none, N_str, N_int, N_bool, N_tup, N_lst, S_str, S_none, S_int, S_bool, S_tup, S_lst, I_str, I_none, I_int, I_bool, I_tup, I_lst, B_str, B_none, B_int, B_bool, B_tup, B_lst, T_str, T_none, T_int, T_bool, T_tup, T_lst, L_str, L_none, L_int, L_bool, L_tup, L_lst, D_str, D_none, D_int, D_bool, D_tup, D_lst, N_dic, S_dic, I_dic, B_dic, T_dic, L_dic, D_dic, E_ss, E_ii, E_bb, E_ns, E_is, E_bs, E_nn, isA_str, isA_int, isA_bool, isA_tuple, isA_list, isA_dict, fEq, fNe, fIsN, fNotN, eqv_str, eqv_int, eqv_bool, exists_eq_left', exists_eq_left, exists_and_left, R.d.injEq, R.o.injEq, PyData.bool.injEq, PyData.str.injEq, PyData.int.injEq, PyData.tuple.injEq, PyData.list.injEq, List.cons.injEq, Option.some.injEq, and_true, true_and, and_self, Bool.not_true, Bool.not_false, Bool.false_eq_true, Bool.true_eq_false, Bool.true_and, Bool.false_and, Bool.true_or, Bool.false_or, if_true, if_false, reduceIte, reduceCtorEq, not_false_eq_true, ne_eq, true_or, or_true, false_or, or_false, List.map_nil, List.map_cons, Option.toList_some, Option.toList_none, false_and, and_false, Bool.not_eq_true, Bool.or_false, Bool.or_true, Bool.and_true, Bool.and_false]
    refine ⟨row, j, ⟨rfl, rfl⟩, hr, hj, fun s k' hk' hs => ?_⟩
    refine hKn _ _ ⟨xs ++ [s], k', by simp [txs], by simp [hx], ?_, hk', rfl⟩
    intro t ht
    rcases List.mem_append.mp ht with z | z
    · exact hi t z
    · rw [List.mem_singleton.mp z]; exact hs
  · rintro acc _ ⟨xs, j, rfl, hx, hi, hj, rfl⟩
    simp only [wSeq, wIfS, wRet, wRetN, wNext, wBreak, wCont, wNever, wSet, wAsg, wPar, wExpr, wFor, wApp, wPop, wSetIx, wVar, wBor, wTake, wC, wBin, wNil, wCons, wPrim, wCall, wTup, wLst, wSl, wNone, wSome, wM0, wM1, wB, wAndT, wOrT, wNotT, wAndV, wOrV, wNotV, wIf, wIsi, wIsi2, wNeg, wChain, wSortedSet, X_txl, X_txt, wIt, wIt.rdf, wRng1, wRng2, wLc, wYes, lcS, wipeG, backG, noMut, rd_d, rd_o, rd_b, rdf_d, rdf_o, fz_d, fz_o, fz_b, sl_d, sl_o, ok_d, ok_o, argSl_d, argSl_o, argSl_b, items_l, items_t, items_s, rds, rdF, stOk_eq, ncO_some, nc_v, nc_own, nc_no, stOks, setAll, wG, mutAt, putAt, Sl.mu, Sl.put, argSls, noB, fewB, putB, endP, cellsOf, cellF, List.getElem?_cons_zero, List.getElem?_cons_succ, List.getElem?_nil, List.set_cons_zero, List.set_cons_succ, List.append_eq, List.nil_append, List.cons_append, List.replicate, List.take_succ_cons, List.take_zero, List.take_nil, List.filterMap_cons, List.filterMap_nil, Option.map_some, Option.map_none, List.length_cons, List.length_nil, F_add_i, F_add_s, F_add_l, F_add_t, F_int, F_cmp_i, F_cmp_s, F_in_l, F_in_t, F_in_s, F_ix_l, F_ix_t, F_ix_s, F_sl_l, F_sl_t, F_sl_s, F_len_l, F_len_t, F_len_s, F_toInt, F_toStr, F_toTup_l, F_toTup_t, F_toLst_l, F_toLst_t, F_all, F_any, F_split, F_join_l, F_join_t, F_part, F_start, F_end, F_strip, F_sorted_l, F_sorted_t, N_none, N_str, N_int, N_bool, N_tup, N_lst, S_str, S_none, S_int, S_bool, S_tup, S_lst, I_str, I_none, I_int, I_bool, I_tup, I_lst, B_str, B_none, B_int, B_bool, B_tup, B_lst, T_str, T_none, T_int, T_bool, T_tup, T_lst, L_str, L_none, L_int, L_bool, L_tup, L_lst, D_str, D_none, D_int, D_bool, D_tup, D_lst, N_dic, S_dic, I_dic, B_dic, T_dic, L_dic, D_dic, E_ss, E_ii, E_bb, E_ns, E_is, E_bs, E_nn, isA_str, isA_int, isA_bool, isA_tuple, isA_list, isA_dict, fEq, fNe, fIsN, fNotN, eqv_str, eqv_int, eqv_bool, exists_eq_left', exists_eq_left, exists_and_left, R.d.injEq, R.o.injEq, PyData.bool.injEq, PyData.str.injEq, PyData.int.injEq, PyData.tuple.injEq, PyData.list.injEq, List.cons.injEq, Option.some.injEq, and_true, true_and, and_self, Bool.not_true, Bool.not_false, Bool.false_eq_true, Bool.true_eq_false, Bool.true_and, Bool.false_and, Bool.true_or, Bool.false_or, if_true, if_false, reduceIte, reduceCtorEq, not_false_eq_true, ne_eq, true_or, or_true, false_or, or_false, List.map_nil, List.map_cons, Option.toList_some, Option.toList_none, false_and, and_false, Bool.not_eq_true, Bool.or_false, Bool.or_true, Bool.and_true, Bool.and_false]
    rw [List.length_range] at hx
    exact h xs j hj (by omega) (by omega) hi

def w__law_word : WS := (wRet (wBin fIx (wLst (wCons (wC (PyData.str "set")) (wCons (wC (PyData.str "append")) (wCons (wC (PyData.str "prepend")) (wCons (wC (PyData.str "drop")) (wCons (wC (PyData.str "default")) (wCons (wC (PyData.str "unset")) (wCons (wC (PyData.str "lock")) (wCons (wC (PyData.str "append")) (wCons (wC (PyData.str "drop")) (wCons (wC (PyData.str "set")) wNil))))))))))) (wCall (fs__law_take) (wCons (wVar 0) (wCons (wBor 1) (wCons (wC (PyData.int 10)) wNil))))))

def opWords : List Str := ["set", "append", "prepend", "drop", "default", "unset", "lock", "append", "drop", "set"]
/-- a draw of a word out of the ten -/
def fs__law_word : FS := fun as Q _ => ∃ (row : List Int) (k : Int), as = [.v (.list (row.map .int)), .cell [.int k]] ∧ 0 < row.length ∧ 0 ≤ k ∧ ∀ (w : Str) (k' : Int), 0 ≤ k' → w ∈ opWords → Q (.d (.str w)) [[.int k']]
theorem l__law_word : ∀ as Q X, fs__law_word as Q X → as.length = 2 := by rintro as Q X ⟨_, _, rfl, _⟩; rfl
theorem m__law_word : ∀ as Q X, fs__law_word as Q X → w__law_word (as ++ List.replicate 0 Sl.no) (endP 2 Q X) := by
  rintro as Q X ⟨row, k, rfl, hr, hk, h⟩
  simp only [w__law_word, fs__law_take, wSeq, wIfS, wRet, wRetN, wNext, wBreak, wCont, wNever, wSet, wAsg, wPar, wExpr, wFor, wApp, wPop, wSetIx, wVar, wBor, wTake, wC, wBin, wNil, wCons, wPrim, wCall, wTup, wLst, wSl, wNone, wSome, wM0, wM1, wB, wAndT, wOrT, wNotT, wAndV, wOrV, wNotV, wIf, wIsi, wIsi2, wNeg, wChain, wSortedSet, X_txl, X_txt, wIt, wIt.rdf, wRng1, wRng2, wLc, wYes, lcS, wipeG, backG, noMut, rd_d, rd_o, rd_b, rdf_d, rdf_o, fz_d, fz_o, fz_b, sl_d, sl_o, ok_d, ok_o, argSl_d, argSl_o, argSl_b, items_l, items_t, items_s, rds, rdF, stOk_eq, ncO_some, nc_v, nc_own, nc_no, stOks, setAll, wG, mutAt, putAt, Sl.mu, Sl.put, argSls, noB, fewB, putB, endP, cellsOf, cellF, List.getElem?_cons_zero, List.getElem?_cons_succ, List.getElem?_nil, List.set_cons_zero, List.set_cons_succ, List.append_eq, List.nil_append, List.cons_append, List.replicate, List.take_succ_cons, List.take_zero, List.take_nil, List.filterMap_cons, List.filterMap_nil, Option.map_some, Option.map_none, List.length_cons, List.length_nil, F_add_i, F_add_s, F_add_l, F_add_t, F_int, F_cmp_i, F_cmp_s, F_in_l, F_in_t, F_in_s, F_ix_l, F_ix_t, F_ix_s, F_sl_l, F_sl_t, F_sl_s, F_len_l, F_len_t, F_len_s, F_toInt, F_toStr, F_toTup_l, F_toTup_t, F_toLst_l, F_toLst_t, F_all, F_any, F_split, F_join_l, F_join_t, F_part, F_start, F_end, F_strip, F_sorted_l, F_sorted_t, N_none, N_str, N_int, N_bool, N_tup, N_lst, S_str, S_none, S_int, S_bool, S_tup, S_lst, I_str, I_none, I_int, I_bool, I_tup, I_lst, B_str, B_none, B_int, B_bool, B_tup, B_lst, T_str, T_none, T_int, T_bool, T_tup, T_lst, L_str, L_none, L_int, L_bool, L_tup, L_lst, D_str, D_none, D_int, D_bool, D_tup, D_lst, N_dic, S_dic, I_dic, B_dic, T_dic, L_dic, D_dic, E_ss, E_ii, E_bb, E_ns, E_is, E_bs, E_nn, isA_str, isA_int, isA_bool, isA_tuple, isA_list, isA_dict, fEq, fNe, fIsN, fNotN, eqv_str, eqv_int, eqv_bool, exists_eq_left', exists_eq_left, exists_and_left, R.d.injEq, R.o.injEq, PyData.bool.injEq, PyData.str.injEq, PyData.int.injEq, PyData.tuple.injEq, PyData.list.injEq, List.cons.injEq, Option.some.injEq, and_true, true_and, and_self, Bool.not_true, Bool.not_false, Bool.false_eq_true, Bool.true_eq_false, Bool.true_and, Bool.false_and, Bool.true_or, Bool.false_or, if_true, if_false, reduceIte, reduceCtorEq, not_false_eq_true, ne_eq, true_or, or_true, false_or, or_false, List.map_nil, List.map_cons, Option.toList_some, Option.toList_none, false_and, and_false, Bool.not_eq_true, Bool.or_false, Bool.or_true, Bool.and_true, Bool.and_false]
  refine ⟨by decide, row, k, _, ⟨rfl, rfl, rfl⟩, hr, hk, by decide, fun r h0 h1 => ?_⟩
  obtain ⟨x, hx, ha⟩ := atI_map PyData.str opWords h0 h1
  exact ⟨_, ha, h x _ (by omega) hx⟩

def w__law_items_for_1 : WS := (wRet (wCall (fs__law_items) (wCons (wVar 0) (wCons (wBor 1) (wCons (wVar 3) (wCons (wC (PyData.int 3)) wNil))))))
def w__law_items_for_2 : WS := (wSeq (wSet (wIf (wOrT (wB (wBin fEq (wBor 2) (wC (PyData.str "set")))) (wB (wBin fEq (wBor 2) (wC (PyData.str "default"))))) (wC (PyData.int 0)) (wC (PyData.int 1))) 3) w__law_items_for_1)
def w__law_items_for : WS := (wSeq (wIfS (wOrT (wB (wBin fEq (wBor 2) (wC (PyData.str "unset")))) (wB (wBin fEq (wBor 2) (wC (PyData.str "lock"))))) (wRet (wTup wNil)) wNext) w__law_items_for_2)

/-- items for a word: none for unset and lock, one at least for append, prepend, drop -/
def fitsWord (w : Str) (xs : List Str) : Prop := if w = "unset" ∨ w = "lock" then xs = [] else (xs.length ≤ 3 ∧ (w = "set" ∨ w = "default" ∨ 1 ≤ xs.length))
def fs__law_items_for : FS := fun as Q _ => ∃ (row : List Int) (k : Int) (w : Str), as = [.v (.list (row.map .int)), .cell [.int k], .v (.str w)] ∧ 0 < row.length ∧ 0 ≤ k ∧
  ∀ (xs : List Str) (k' : Int), 0 ≤ k' → fitsWord w xs → (∀ s ∈ xs, isIt s) → Q (.d (.tuple (txs xs))) [[.int k']]
theorem l__law_items_for : ∀ as Q X, fs__law_items_for as Q X → as.length = 3 := by rintro as Q X ⟨_, _, _, rfl, _⟩; rfl
theorem m__law_items_for : ∀ as Q X, fs__law_items_for as Q X → w__law_items_for (as ++ List.replicate 1 Sl.no) (endP 3 Q X) := by
  rintro as Q X ⟨row, k, w, rfl, hr, hk, h⟩
  simp only [w__law_items_for, w__law_items_for_2, w__law_items_for_1, fs__law_items, wSeq, wIfS, wRet, wRetN, wNext, wBreak, wCont, wNever, wSet, wAsg, wPar, wExpr, wFor, wApp, wPop, wSetIx, wVar, wBor, wTake, wC, wBin, wNil, wCons, wPrim, wCall, wTup, wLst, wSl, wNone, wSome, wM0, wM1, wB, wAndT, wOrT, wNotT, wAndV, wOrV, wNotV, wIf, wIsi, wIsi2, wNeg, wChain, wSortedSet, X_txl, X_txt, wIt, wIt.rdf, wRng1, wRng2, wLc, wYes, lcS, wipeG, backG, noMut, rd_d, rd_o, rd_b, rdf_d, rdf_o, fz_d, fz_o, fz_b, sl_d, sl_o, ok_d, ok_o, argSl_d, argSl_o, argSl_b, items_l, items_t, items_s, rds, rdF, stOk_eq, ncO_some, nc_v, nc_own, nc_no, stOks, setAll, wG, mutAt, putAt, Sl.mu, Sl.put, argSls, noB, fewB, putB, endP, cellsOf, cellF, List.getElem?_cons_zero, List.getElem?_cons_succ, List.getElem?_nil, List.set_cons_zero, List.set_cons_succ, List.append_eq, List.nil_append, List.cons_append, List.replicate, List.take_succ_cons, List.take_zero, List.take_nil, List.filterMap_cons, List.filterMap_nil, Option.map_some, Option.map_none, List.length_cons, List.length_nil, F_add_i, F_add_s, F_add_l, F_add_t, F_int, F_cmp_i, F_cmp_s, F_in_l, F_in_t, F_in_s, F_ix_l, F_ix_t, F_ix_s, F_sl_l, F_sl_t, F_sl_s, F_len_l, F_len_t, F_len_s, F_toInt, F_toStr, F_toTup_l, F_toTup_t, F_toLst_l, F_toLst_t, F_all, F_any, F_split, F_join_l, F_join_t, F_part, F_start, F_end, F_strip, F_sorted_l, F_sorted_t, N_none, N_str, N_int, N_bool, N_tup, N_lst, S_str, S_none, S_int, S_bool, S_tup, S_lst, I_str, I_none, I_int, I_bool, I_tup, I_lst, B_str, B_none, B_int, B_bool, B_tup, B_lst, T_str, T_none, T_int, T_bool, T_tup, T_lst, L_str, L_none, L_int, L_bool, L_tup, L_lst, D_str, D_none, D_int, D_bool, D_tup, D_lst, N_dic, S_dic, I_dic, B_dic, T_dic, L_dic, D_dic, E_ss, E_ii, E_bb, E_ns, E_is, E_bs, E_nn, isA_str, isA_int, isA_bool, isA_tuple, isA_list, isA_dict, fEq, fNe, fIsN, fNotN, eqv_str, eqv_int, eqv_bool, exists_eq_left', exists_eq_left, exists_and_left, R.d.injEq, R.o.injEq, PyData.bool.injEq, PyData.str.injEq, PyData.int.injEq, PyData.tuple.injEq, PyData.list.injEq, List.cons.injEq, Option.some.injEq, and_true, true_and, and_self, Bool.not_true, Bool.not_false, Bool.false_eq_true, Bool.true_eq_false, Bool.true_and, Bool.false_and, Bool.true_or, Bool.false_or, if_true, if_false, reduceIte, reduceCtorEq, not_false_eq_true, ne_eq, true_or, or_true, false_or, or_false, List.map_nil, List.map_cons, Option.toList_some, Option.toList_none, false_and, and_false, Bool.not_eq_true, Bool.or_false, Bool.or_true, Bool.and_true, Bool.and_false]
  have hu : w = Str.ofString "unset" → Q (.d (.tuple [])) [[.int k]] := fun e => h [] k hk (by unfold fitsWord; rw [if_pos (.inl e)]) (by simp)
  have hv : w = Str.ofString "lock" → Q (.d (.tuple [])) [[.int k]] := fun e => h [] k hk (by unfold fitsWord; rw [if_pos (.inr e)]) (by simp)
  by_cases hu1 : w = Str.ofString "unset"
  · simp only [hu1, beq_self_eq_true, exists_eq_left', exists_eq_left, exists_and_left, R.d.injEq, R.o.injEq, PyData.bool.injEq, PyData.str.injEq, PyData.int.injEq, PyData.tuple.injEq, PyData.list.injEq, List.cons.injEq, Option.some.injEq, and_true, true_and, and_self, Bool.not_true, Bool.not_false, Bool.false_eq_true, Bool.true_eq_false, Bool.true_and, Bool.false_and, Bool.true_or, Bool.false_or, if_true, if_false, reduceIte, reduceCtorEq, not_false_eq_true, ne_eq, true_or, or_true, false_or, or_false, List.map_nil, List.map_cons, Option.toList_some, Option.toList_none, false_and, and_false, Bool.not_eq_true, Bool.or_false, Bool.or_true, Bool.and_true, Bool.and_false]
    exact ⟨by decide, hu hu1⟩
  by_cases hv1 : w = Str.ofString "lock"
  · have : (w == Str.ofString "unset") = false := by simpa using hu1
    simp only [this, exists_eq_left', exists_eq_left, exists_and_left, R.d.injEq, R.o.injEq, PyData.bool.injEq, PyData.str.injEq, PyData.int.injEq, PyData.tuple.injEq, PyData.list.injEq, List.cons.injEq, Option.some.injEq, and_true, true_and, and_self, Bool.not_true, Bool.not_false, Bool.false_eq_true, Bool.true_eq_false, Bool.true_and, Bool.false_and, Bool.true_or, Bool.false_or, if_true, if_false, reduceIte, reduceCtorEq, not_false_eq_true, ne_eq, true_or, or_true, false_or, or_false, List.map_nil, List.map_cons, Option.toList_some, Option.toList_none, false_and, and_false, Bool.not_eq_true, Bool.or_false, Bool.or_true, Bool.and_true, Bool.and_false]
    simp only [hv1, beq_self_eq_true, exists_eq_left', exists_eq_left, exists_and_left, R.d.injEq, R.o.injEq, PyData.bool.injEq, PyData.str.injEq, PyData.int.injEq, PyData.tuple.injEq, PyData.list.injEq, List.cons.injEq, Option.some.injEq, and_true, true_and, and_self, Bool.not_true, Bool.not_false, Bool.false_eq_true, Bool.true_eq_false, Bool.true_and, Bool.false_and, Bool.true_or, Bool.false_or, if_true, if_false, reduceIte, reduceCtorEq, not_false_eq_true, ne_eq, true_or, or_true, false_or, or_false, List.map_nil, List.map_cons, Option.toList_some, Option.toList_none, false_and, and_false, Bool.not_eq_true, Bool.or_false, Bool.or_true, Bool.and_true, Bool.and_false]
    exact ⟨by decide, hv hv1⟩
  have e1 : (w == Str.ofString "unset") = false := by simpa using hu1
  have e2 : (w == Str.ofString "lock") = false := by simpa using hv1
  have hf : ∀ xs : List Str, xs.length ≤ 3 → (w = Str.ofString "set" ∨ w = Str.ofString "default" ∨ 1 ≤ xs.length) → fitsWord w xs := fun xs a b => by
    unfold fitsWord
    rw [if_neg]
    · exact ⟨a, b⟩
    · rintro (z | z)
      · exact hu1 z
      · exact hv1 z
  simp only [e1, e2, exists_eq_left', exists_eq_left, exists_and_left, R.d.injEq, R.o.injEq, PyData.bool.injEq, PyData.str.injEq, PyData.int.injEq, PyData.tuple.injEq, PyData.list.injEq, List.cons.injEq, Option.some.injEq, and_true, true_and, and_self, Bool.not_true, Bool.not_false, Bool.false_eq_true, Bool.true_eq_false, Bool.true_and, Bool.false_and, Bool.true_or, Bool.false_or, if_true, if_false, reduceIte, reduceCtorEq, not_false_eq_true, ne_eq, true_or, or_true, false_or, or_false, List.map_nil, List.map_cons, Option.toList_some, Option.toList_none, false_and, and_false, Bool.not_eq_true, Bool.or_false, Bool.or_true, Bool.and_true, Bool.and_false]
  by_cases hs : w = Str.ofString "set"
  · simp only [hs, beq_self_eq_true, exists_eq_left', exists_eq_left, exists_and_left, R.d.injEq, R.o.injEq, PyData.bool.injEq, PyData.str.injEq, PyData.int.injEq, PyData.tuple.injEq, PyData.list.injEq, List.cons.injEq, Option.some.injEq, and_true, true_and, and_self, Bool.not_true, Bool.not_false, Bool.false_eq_true, Bool.true_eq_false, Bool.true_and, Bool.false_and, Bool.true_or, Bool.false_or, if_true, if_false, reduceIte, reduceCtorEq, not_false_eq_true, ne_eq, true_or, or_true, false_or, or_false, List.map_nil, List.map_cons, Option.toList_some, Option.toList_none, false_and, and_false, Bool.not_eq_true, Bool.or_false, Bool.or_true, Bool.and_true, Bool.and_false]
    refine ⟨row, k, 0, 3, ⟨rfl, rfl, rfl, rfl⟩, hr, hk, by omega, by omega, by omega, by omega, fun xs k' hk' a b c => ?_⟩
    exact h xs k' hk' (hf xs (by omega) (.inl hs)) c
  · have e3 : (w == Str.ofString "set") = false := by simpa using hs
    simp only [e3, exists_eq_left', exists_eq_left, exists_and_left, R.d.injEq, R.o.injEq, PyData.bool.injEq, PyData.str.injEq, PyData.int.injEq, PyData.tuple.injEq, PyData.list.injEq, List.cons.injEq, Option.some.injEq, and_true, true_and, and_self, Bool.not_true, Bool.not_false, Bool.false_eq_true, Bool.true_eq_false, Bool.true_and, Bool.false_and, Bool.true_or, Bool.false_or, if_true, if_false, reduceIte, reduceCtorEq, not_false_eq_true, ne_eq, true_or, or_true, false_or, or_false, List.map_nil, List.map_cons, Option.toList_some, Option.toList_none, false_and, and_false, Bool.not_eq_true, Bool.or_false, Bool.or_true, Bool.and_true, Bool.and_false]
    by_cases hd : w = Str.ofString "default"
    · simp only [hd, beq_self_eq_true, exists_eq_left', exists_eq_left, exists_and_left, R.d.injEq, R.o.injEq, PyData.bool.injEq, PyData.str.injEq, PyData.int.injEq, PyData.tuple.injEq, PyData.list.injEq, List.cons.injEq, Option.some.injEq, and_true, true_and, and_self, Bool.not_true, Bool.not_false, Bool.false_eq_true, Bool.true_eq_false, Bool.true_and, Bool.false_and, Bool.true_or, Bool.false_or, if_true, if_false, reduceIte, reduceCtorEq, not_false_eq_true, ne_eq, true_or, or_true, false_or, or_false, List.map_nil, List.map_cons, Option.toList_some, Option.toList_none, false_and, and_false, Bool.not_eq_true, Bool.or_false, Bool.or_true, Bool.and_true, Bool.and_false]
      refine ⟨row, k, 0, 3, ⟨rfl, rfl, rfl, rfl⟩, hr, hk, by omega, by omega, by omega, by omega, fun xs k' hk' a b c => ?_⟩
      exact h xs k' hk' (hf xs (by omega) (.inr (.inl hd))) c
    · have e4 : (w == Str.ofString "default") = false := by simpa using hd
      simp only [e4, exists_eq_left', exists_eq_left, exists_and_left, R.d.injEq, R.o.injEq, PyData.bool.injEq, PyData.str.injEq, PyData.int.injEq, PyData.tuple.injEq, PyData.list.injEq, List.cons.injEq, Option.some.injEq, and_true, true_and, and_self, Bool.not_true, Bool.not_false, Bool.false_eq_true, Bool.true_eq_false, Bool.true_and, Bool.false_and, Bool.true_or, Bool.false_or, if_true, if_false, reduceIte, reduceCtorEq, not_false_eq_true, ne_eq, true_or, or_true, false_or, or_false, List.map_nil, List.map_cons, Option.toList_some, Option.toList_none, false_and, and_false, Bool.not_eq_true, Bool.or_false, Bool.or_true, Bool.and_true, Bool.and_false]
      refine ⟨row, k, 1, 3, ⟨rfl, rfl, rfl, rfl⟩, hr, hk, by omega, by omega, by omega, by omega, fun xs k' hk' a b c => ?_⟩
      exact h xs k' hk' (hf xs (by omega) (.inr (.inr (by omega)))) c

def w__law_kept : WS := (wRet (wPrim fToTup (wCons (wLc (wIt (wVar 0)) (.n 2) (wB (wBin (fIn true) (wBor 2) (wBor 1))) (wVar 2) [2]) wNil)))

def fs__law_kept : FS := fun as Q _ => ∃ xs gs : List Str, as = [.v (.tuple (txs xs)), .v (.tuple (txs gs))] ∧ xs.length ≤ 1000000 ∧ Q (.d (.tuple (txs (kept xs gs)))) []
theorem l__law_kept : ∀ as Q X, fs__law_kept as Q X → as.length = 2 := by rintro as Q X ⟨_, _, rfl, _⟩; rfl
theorem m__law_kept : ∀ as Q X, fs__law_kept as Q X → w__law_kept (as ++ List.replicate 1 Sl.no) (endP 2 Q X) := by
  rintro as Q X ⟨xs, gs, rfl, hz, h⟩
  simp only [w__law_kept, wSeq, wIfS, wRet, wRetN, wNext, wBreak, wCont, wNever, wSet, wAsg, wPar, wExpr, wFor, wApp, wPop, wSetIx, wVar, wBor, wTake, wC, wBin, wNil, wCons, wPrim, wCall, wTup, wLst, wSl, wNone, wSome, wM0, wM1, wB, wAndT, wOrT, wNotT, wAndV, wOrV, wNotV, wIf, wIsi, wIsi2, wNeg, wChain, wSortedSet, X_txl, X_txt, wIt, wIt.rdf, wRng1, wRng2, wLc, wYes, lcS, wipeG, backG, noMut, rd_d, rd_o, rd_b, rdf_d, rdf_o, fz_d, fz_o, fz_b, sl_d, sl_o, ok_d, ok_o, argSl_d, argSl_o, argSl_b, items_l, items_t, items_s, rds, rdF, stOk_eq, ncO_some, nc_v, nc_own, nc_no, stOks, setAll, wG, mutAt, putAt, Sl.mu, Sl.put, argSls, noB, fewB, putB, endP, cellsOf, cellF, List.getElem?_cons_zero, List.getElem?_cons_succ, List.getElem?_nil, List.set_cons_zero, List.set_cons_succ, List.append_eq, List.nil_append, List.cons_append, List.replicate, List.take_succ_cons, List.take_zero, List.take_nil, List.filterMap_cons, List.filterMap_nil, Option.map_some, Option.map_none, List.length_cons, List.length_nil, F_add_i, F_add_s, F_add_l, F_add_t, F_int, F_cmp_i, F_cmp_s, F_in_l, F_in_t, F_in_s, F_ix_l, F_ix_t, F_ix_s, F_sl_l, F_sl_t, F_sl_s, F_len_l, F_len_t, F_len_s, F_toInt, F_toStr, F_toTup_l, F_toTup_t, F_toLst_l, F_toLst_t, F_all, F_any, F_split, F_join_l, F_join_t, F_part, F_start, F_end, F_strip, F_sorted_l, F_sorted_t, N_none, N_str, N_int, N_bool, N_tup, N_lst, S_str, S_none, S_int, S_bool, S_tup, S_lst, I_str, I_none, I_int, I_bool, I_tup, I_lst, B_str, B_none, B_int, B_bool, B_tup, B_lst, T_str, T_none, T_int, T_bool, T_tup, T_lst, L_str, L_none, L_int, L_bool, L_tup, L_lst, D_str, D_none, D_int, D_bool, D_tup, D_lst, N_dic, S_dic, I_dic, B_dic, T_dic, L_dic, D_dic, E_ss, E_ii, E_bb, E_ns, E_is, E_bs, E_nn, isA_str, isA_int, isA_bool, isA_tuple, isA_list, isA_dict, fEq, fNe, fIsN, fNotN, eqv_str, eqv_int, eqv_bool, exists_eq_left', exists_eq_left, exists_and_left, R.d.injEq, R.o.injEq, PyData.bool.injEq, PyData.str.injEq, PyData.int.injEq, PyData.tuple.injEq, PyData.list.injEq, List.cons.injEq, Option.some.injEq, and_true, true_and, and_self, Bool.not_true, Bool.not_false, Bool.false_eq_true, Bool.true_eq_false, Bool.true_and, Bool.false_and, Bool.true_or, Bool.false_or, if_true, if_false, reduceIte, reduceCtorEq, not_false_eq_true, ne_eq, true_or, or_true, false_or, or_false, List.map_nil, List.map_cons, Option.toList_some, Option.toList_none, false_and, and_false, Bool.not_eq_true, Bool.or_false, Bool.or_true, Bool.and_true, Bool.and_false]
  refine ⟨lz (by simpa using hz), lcI_fmE xs PyData.str (fun s => if s ∉ gs then some (.str s) else none) rfl (fun s hs Kn kn => ?_) ?_⟩
  · simp only [wSeq, wIfS, wRet, wRetN, wNext, wBreak, wCont, wNever, wSet, wAsg, wPar, wExpr, wFor, wApp, wPop, wSetIx, wVar, wBor, wTake, wC, wBin, wNil, wCons, wPrim, wCall, wTup, wLst, wSl, wNone, wSome, wM0, wM1, wB, wAndT, wOrT, wNotT, wAndV, wOrV, wNotV, wIf, wIsi, wIsi2, wNeg, wChain, wSortedSet, X_txl, X_txt, wIt, wIt.rdf, wRng1, wRng2, wLc, wYes, lcS, wipeG, backG, noMut, rd_d, rd_o, rd_b, rdf_d, rdf_o, fz_d, fz_o, fz_b, sl_d, sl_o, ok_d, ok_o, argSl_d, argSl_o, argSl_b, items_l, items_t, items_s, rds, rdF, stOk_eq, ncO_some, nc_v, nc_own, nc_no, stOks, setAll, wG, mutAt, putAt, Sl.mu, Sl.put, argSls, noB, fewB, putB, endP, cellsOf, cellF, List.getElem?_cons_zero, List.getElem?_cons_succ, List.getElem?_nil, List.set_cons_zero, List.set_cons_succ, List.append_eq, List.nil_append, List.cons_append, List.replicate, List.take_succ_cons, List.take_zero, List.take_nil, List.filterMap_cons, List.filterMap_nil, Option.map_some, Option.map_none, List.length_cons, List.length_nil, F_add_i, F_add_s, F_add_l, F_add_t, F_int, F_cmp_i, F_cmp_s, F_in_l, F_in_t, F_in_s, F_ix_l, F_ix_t, F_ix_s, F_sl_l, F_sl_t, F_sl_s, F_len_l, F_len_t, F_len_s, F_toInt, F_toStr, F_toTup_l, F_toTup_t, F_toLst_l, F_toLst_t, F_all, F_any, F_split, F_join_l, F_join_t, F_part, F_start, F_end, F_strip, F_sorted_l, F_sorted_t, N_none, N_str, N_int, N_bool, N_tup, N_lst, S_str, S_none, S_int, S_bool, S_tup, S_lst, I_str, I_none, I_int, I_bool, I_tup, I_lst, B_str, B_none, B_int, B_bool, B_tup, B_lst, T_str, T_none, T_int, T_bool, T_tup, T_lst, L_str, L_none, L_int, L_bool, L_tup, L_lst, D_str, D_none, D_int, D_bool, D_tup, D_lst, N_dic, S_dic, I_dic, B_dic, T_dic, L_dic, D_dic, E_ss, E_ii, E_bb, E_ns, E_is, E_bs, E_nn, isA_str, isA_int, isA_bool, isA_tuple, isA_list, isA_dict, fEq, fNe, fIsN, fNotN, eqv_str, eqv_int, eqv_bool, exists_eq_left', exists_eq_left, exists_and_left, R.d.injEq, R.o.injEq, PyData.bool.injEq, PyData.str.injEq, PyData.int.injEq, PyData.tuple.injEq, PyData.list.injEq, List.cons.injEq, Option.some.injEq, and_true, true_and, and_self, Bool.not_true, Bool.not_false, Bool.false_eq_true, Bool.true_eq_false, Bool.true_and, Bool.false_and, Bool.true_or, Bool.false_or, if_true, if_false, reduceIte, reduceCtorEq, not_false_eq_true, ne_eq, true_or, or_true, false_or, or_false, List.map_nil, List.map_cons, Option.toList_some, Option.toList_none, false_and, and_false, Bool.not_eq_true, Bool.or_false, Bool.or_true, Bool.and_true, Bool.and_false, flat_str, flat_strs, inD_strs]
    by_cases hg : s ∈ gs
    · simpa [hg] using kn
    · simpa [hg] using kn
  · simp only [wSeq, wIfS, wRet, wRetN, wNext, wBreak, wCont, wNever, wSet, wAsg, wPar, wExpr, wFor, wApp, wPop, wSetIx, wVar, wBor, wTake, wC, wBin, wNil, wCons, wPrim, wCall, wTup, wLst, wSl, wNone, wSome, wM0, wM1, wB, wAndT, wOrT, wNotT, wAndV, wOrV, wNotV, wIf, wIsi, wIsi2, wNeg, wChain, wSortedSet, X_txl, X_txt, wIt, wIt.rdf, wRng1, wRng2, wLc, wYes, lcS, wipeG, backG, noMut, rd_d, rd_o, rd_b, rdf_d, rdf_o, fz_d, fz_o, fz_b, sl_d, sl_o, ok_d, ok_o, argSl_d, argSl_o, argSl_b, items_l, items_t, items_s, rds, rdF, stOk_eq, ncO_some, nc_v, nc_own, nc_no, stOks, setAll, wG, mutAt, putAt, Sl.mu, Sl.put, argSls, noB, fewB, putB, endP, cellsOf, cellF, List.getElem?_cons_zero, List.getElem?_cons_succ, List.getElem?_nil, List.set_cons_zero, List.set_cons_succ, List.append_eq, List.nil_append, List.cons_append, List.replicate, List.take_succ_cons, List.take_zero, List.take_nil, List.filterMap_cons, List.filterMap_nil, Option.map_some, Option.map_none, List.length_cons, List.length_nil, F_add_i, F_add_s, F_add_l, F_add_t, F_int, F_cmp_i, F_cmp_s, F_in_l, F_in_t, F_in_s, F_ix_l, F_ix_t, F_ix_s, F_sl_l, F_sl_t, F_sl_s, F_len_l, F_len_t, F_len_s, F_toInt, F_toStr, F_toTup_l, F_toTup_t, F_toLst_l, F_toLst_t, F_all, F_any, F_split, F_join_l, F_join_t, F_part, F_start, F_end, F_strip, F_sorted_l, F_sorted_t, N_none, N_str, N_int, N_bool, N_tup, N_lst, S_str, S_none, S_int, S_bool, S_tup, S_lst, I_str, I_none, I_int, I_bool, I_tup, I_lst, B_str, B_none, B_int, B_bool, B_tup, B_lst, T_str, T_none, T_int, T_bool, T_tup, T_lst, L_str, L_none, L_int, L_bool, L_tup, L_lst, D_str, D_none, D_int, D_bool, D_tup, D_lst, N_dic, S_dic, I_dic, B_dic, T_dic, L_dic, D_dic, E_ss, E_ii, E_bb, E_ns, E_is, E_bs, E_nn, isA_str, isA_int, isA_bool, isA_tuple, isA_list, isA_dict, fEq, fNe, fIsN, fNotN, eqv_str, eqv_int, eqv_bool, exists_eq_left', exists_eq_left, exists_and_left, R.d.injEq, R.o.injEq, PyData.bool.injEq, PyData.str.injEq, PyData.int.injEq, PyData.tuple.injEq, PyData.list.injEq, List.cons.injEq, Option.some.injEq, and_true, true_and, and_self, Bool.not_true, Bool.not_false, Bool.false_eq_true, Bool.true_eq_false, Bool.true_and, Bool.false_and, Bool.true_or, Bool.false_or, if_true, if_false, reduceIte, reduceCtorEq, not_false_eq_true, ne_eq, true_or, or_true, false_or, or_false, List.map_nil, List.map_cons, Option.toList_some, Option.toList_none, false_and, and_false, Bool.not_eq_true, Bool.or_false, Bool.or_true, Bool.and_true, Bool.and_false]
    have e : (xs.filterMap fun s => if s ∉ gs then some (PyData.str s) else none) = txs (kept xs gs) := by
      unfold txs kept
      clear h
      induction xs with
      | nil => rfl
      | cons x xs ih =>
        have ih := ih (by simp at hz; omega)
        by_cases hg : x ∈ gs
        · simp [hg] at ih ⊢; exact ih
        · simp [hg] at ih ⊢; exact ih
    rw [e]
    exact h

def w__law_rising_1 : WS := (wIfS (wB (wBin (fIn true) (wBor 2) (wBor 1))) (wApp 1 (wVar 2)) wNext)
def w__law_rising_2 : WS := (wRet (wPrim fToTup (wCons (wBor 1) wNil)))
def w__law_rising_3 : WS := (wSeq (wFor (wIt (wPrim fSorted (wCons (wBor 0) wNil))) (.n 2) w__law_rising_1) w__law_rising_2)
def w__law_rising : WS := (wSeq (wSet (wLst wNil) 1) w__law_rising_3)

def fs__law_rising : FS := fun as Q _ => ∃ (xs : List Str) (d : PyData), as = [.v d] ∧ (d = .tuple (txs xs) ∨ d = .list (txs xs)) ∧ xs.length ≤ 1000000 ∧ Q (.d (.tuple (txs (riseF xs)))) []
theorem l__law_rising : ∀ as Q X, fs__law_rising as Q X → as.length = 1 := by rintro as Q X ⟨_, _, rfl, _⟩; rfl
theorem m__law_rising : ∀ as Q X, fs__law_rising as Q X → w__law_rising (as ++ List.replicate 2 Sl.no) (endP 1 Q X) := by
  rintro as Q X ⟨xs, d, rfl, hd, hz, h⟩
  have fsd : ∀ Q : R → Prop, fSorted [d] Q = ∃ ys, strsD (txs xs) = some ys ∧ ∀ zs : List Str, zs.Perm ys → PyProof.Rows.sortedS zs = true → Q (.o (zs.map .str)) := fun Q => by rcases hd with rfl | rfl <;> rfl
  simp only [w__law_rising, w__law_rising_3, wSeq, wIfS, wRet, wRetN, wNext, wBreak, wCont, wNever, wSet, wAsg, wPar, wExpr, wFor, wApp, wPop, wSetIx, wVar, wBor, wTake, wC, wBin, wNil, wCons, wPrim, wCall, wTup, wLst, wSl, wNone, wSome, wM0, wM1, wB, wAndT, wOrT, wNotT, wAndV, wOrV, wNotV, wIf, wIsi, wIsi2, wNeg, wChain, wSortedSet, X_txl, X_txt, wIt, wIt.rdf, wRng1, wRng2, wLc, wYes, lcS, wipeG, backG, noMut, rd_d, rd_o, rd_b, rdf_d, rdf_o, fz_d, fz_o, fz_b, sl_d, sl_o, ok_d, ok_o, argSl_d, argSl_o, argSl_b, items_l, items_t, items_s, rds, rdF, stOk_eq, ncO_some, nc_v, nc_own, nc_no, stOks, setAll, wG, mutAt, putAt, Sl.mu, Sl.put, argSls, noB, fewB, putB, endP, cellsOf, cellF, List.getElem?_cons_zero, List.getElem?_cons_succ, List.getElem?_nil, List.set_cons_zero, List.set_cons_succ, List.append_eq, List.nil_append, List.cons_append, List.replicate, List.take_succ_cons, List.take_zero, List.take_nil, List.filterMap_cons, List.filterMap_nil, Option.map_some, Option.map_none, List.length_cons, List.length_nil, F_add_i, F_add_s, F_add_l, F_add_t, F_int, F_cmp_i, F_cmp_s, F_in_l, F_in_t, F_in_s, F_ix_l, F_ix_t, F_ix_s, F_sl_l, F_sl_t, F_sl_s, F_len_l, F_len_t, F_len_s, F_toInt, F_toStr, F_toTup_l, F_toTup_t, F_toLst_l, F_toLst_t, F_all, F_any, F_split, F_join_l, F_join_t, F_part, F_start, F_end, F_strip, F_sorted_l, F_sorted_t, N_none, N_str, N_int, N_bool, N_tup, N_lst, S_str, S_none, S_int, S_bool, S_tup, S_lst, I_str, I_none, I_int, I_bool, I_tup, I_lst, B_str, B_none, B_int, B_bool, B_tup, B_lst, T_str, T_none, T_int, T_bool, T_tup, T_lst, L_str, L_none, L_int, L_bool, L_tup, L_lst, D_str, D_none, D_int, D_bool, D_tup, D_lst, N_dic, S_dic, I_dic, B_dic, T_dic, L_dic, D_dic, E_ss, E_ii, E_bb, E_ns, E_is, E_bs, E_nn, isA_str, isA_int, isA_bool, isA_tuple, isA_list, isA_dict, fEq, fNe, fIsN, fNotN, eqv_str, eqv_int, eqv_bool, exists_eq_left', exists_eq_left, exists_and_left, R.d.injEq, R.o.injEq, PyData.bool.injEq, PyData.str.injEq, PyData.int.injEq, PyData.tuple.injEq, PyData.list.injEq, List.cons.injEq, Option.some.injEq, and_true, true_and, and_self, Bool.not_true, Bool.not_false, Bool.false_eq_true, Bool.true_eq_false, Bool.true_and, Bool.false_and, Bool.true_or, Bool.false_or, if_true, if_false, reduceIte, reduceCtorEq, not_false_eq_true, ne_eq, true_or, or_true, false_or, or_false, List.map_nil, List.map_cons, Option.toList_some, Option.toList_none, false_and, and_false, Bool.not_eq_true, Bool.or_false, Bool.or_true, Bool.and_true, Bool.and_false, fsd]
  refine ⟨by decide, xs, strsD_map xs, fun ys hp hs => ?_⟩
  have pw := sortedS_pw hs
  refine forI_E ys PyData.str (fun pre Γ => ∃ (zs : List Str) (e : Sl), Γ = [.v d, .own (txs zs), e] ∧ nc e ∧ Rise zs ∧ (∀ s, s ∈ zs ↔ s ∈ pre) ∧ zs.length ≤ pre.length) rfl ⟨[], _, rfl, trivial, .nil, by simp, by simp⟩ ?_ ?_
  · rintro pre x post _ q ⟨zs, e, rfl, ne, hri, hm, hl⟩ N hN
    have hpz : pre.length ≤ 1000000 := by
      have h1 := congrArg List.length q
      have h2 := hp.length_eq
      simp only [List.length_append, List.length_cons] at h1
      omega
    have hzz : (txs zs).length < sizeLine := lz (by simpa using (by omega : zs.length ≤ 1000000))
    simp only [w__law_rising_1, wSeq, wIfS, wRet, wRetN, wNext, wBreak, wCont, wNever, wSet, wAsg, wPar, wExpr, wFor, wApp, wPop, wSetIx, wVar, wBor, wTake, wC, wBin, wNil, wCons, wPrim, wCall, wTup, wLst, wSl, wNone, wSome, wM0, wM1, wB, wAndT, wOrT, wNotT, wAndV, wOrV, wNotV, wIf, wIsi, wIsi2, wNeg, wChain, wSortedSet, X_txl, X_txt, wIt, wIt.rdf, wRng1, wRng2, wLc, wYes, lcS, wipeG, backG, noMut, rd_d, rd_o, rd_b, rdf_d, rdf_o, fz_d, fz_o, fz_b, sl_d, sl_o, ok_d, ok_o, argSl_d, argSl_o, argSl_b, items_l, items_t, items_s, rds, rdF, stOk_eq, ncO_some, nc_v, nc_own, nc_no, stOks, setAll, wG, mutAt, putAt, Sl.mu, Sl.put, argSls, noB, fewB, putB, endP, cellsOf, cellF, List.getElem?_cons_zero, List.getElem?_cons_succ, List.getElem?_nil, List.set_cons_zero, List.set_cons_succ, List.append_eq, List.nil_append, List.cons_append, List.replicate, List.take_succ_cons, List.take_zero, List.take_nil, List.filterMap_cons, List.filterMap_nil, Option.map_some, Option.map_none, List.length_cons, List.length_nil, F_add_i, F_add_s, F_add_l, F_add_t, F_int, F_cmp_i, F_cmp_s, F_in_l, F_in_t, F_in_s, F_ix_l, F_ix_t, F_ix_s, F_sl_l, F_sl_t, F_sl_s, F_len_l, F_len_t, F_len_s, F_toInt, F_toStr, F_toTup_l, F_toTup_t, F_toLst_l, F_toLst_t, F_all, F_any, F_split, F_join_l, F_join_t, F_part, F_start, F_end, F_strip, F_sorted_l, F_sorted_t, N_none, N_str, N_int, N_bool, N_tup, N_lst, S_str, S_none, S_int, S_bool, S_tup, S_lst, I_str, I_none, I_int, I_bool, I_tup, I_lst, B_str, B_none, B_int, B_bool, B_tup, B_lst, T_str, T_none, T_int, T_bool, T_tup, T_lst, L_str, L_none, L_int, L_bool, L_tup, L_lst, D_str, D_none, D_int, D_bool, D_tup, D_lst, N_dic, S_dic, I_dic, B_dic, T_dic, L_dic, D_dic, E_ss, E_ii, E_bb, E_ns, E_is, E_bs, E_nn, isA_str, isA_int, isA_bool, isA_tuple, isA_list, isA_dict, fEq, fNe, fIsN, fNotN, eqv_str, eqv_int, eqv_bool, exists_eq_left', exists_eq_left, exists_and_left, R.d.injEq, R.o.injEq, PyData.bool.injEq, PyData.str.injEq, PyData.int.injEq, PyData.tuple.injEq, PyData.list.injEq, List.cons.injEq, Option.some.injEq, and_true, true_and, and_self, Bool.not_true, Bool.not_false, Bool.false_eq_true, Bool.true_eq_false, Bool.true_and, Bool.false_and, Bool.true_or, Bool.false_or, if_true, if_false, reduceIte, reduceCtorEq, not_false_eq_true, ne_eq, true_or, or_true, false_or, or_false, List.map_nil, List.map_cons, Option.toList_some, Option.toList_none, false_and, and_false, Bool.not_eq_true, Bool.or_false, Bool.or_true, Bool.and_true, Bool.and_false, ne, flat_str, flat_strs, inD_strs, hzz, exists_eq']
    by_cases hx : x ∈ zs
    · simp only [hx, decide_true, exists_eq_left', exists_eq_left, exists_and_left, R.d.injEq, R.o.injEq, PyData.bool.injEq, PyData.str.injEq, PyData.int.injEq, PyData.tuple.injEq, PyData.list.injEq, List.cons.injEq, Option.some.injEq, and_true, true_and, and_self, Bool.not_true, Bool.not_false, Bool.false_eq_true, Bool.true_eq_false, Bool.true_and, Bool.false_and, Bool.true_or, Bool.false_or, if_true, if_false, reduceIte, reduceCtorEq, not_false_eq_true, ne_eq, true_or, or_true, false_or, or_false, List.map_nil, List.map_cons, Option.toList_some, Option.toList_none, false_and, and_false, Bool.not_eq_true, Bool.or_false, Bool.or_true, Bool.and_true, Bool.and_false]
      refine hN _ ⟨zs, .v (.str x), rfl, trivial, hri, fun s => ?_, by simp only [List.length_append, List.length_singleton]; omega⟩
      rw [hm, List.mem_append, List.mem_singleton]
      constructor
      · exact .inl
      · rintro (z | z)
        · exact z
        · rw [z]; exact (hm x).mp hx
    · simp only [hx, decide_false, exists_eq_left', exists_eq_left, exists_and_left, R.d.injEq, R.o.injEq, PyData.bool.injEq, PyData.str.injEq, PyData.int.injEq, PyData.tuple.injEq, PyData.list.injEq, List.cons.injEq, Option.some.injEq, and_true, true_and, and_self, Bool.not_true, Bool.not_false, Bool.false_eq_true, Bool.true_eq_false, Bool.true_and, Bool.false_and, Bool.true_or, Bool.false_or, if_true, if_false, reduceIte, reduceCtorEq, not_false_eq_true, ne_eq, true_or, or_true, false_or, or_false, List.map_nil, List.map_cons, Option.toList_some, Option.toList_none, false_and, and_false, Bool.not_eq_true, Bool.or_false, Bool.or_true, Bool.and_true, Bool.and_false]
      refine hN _ ⟨zs ++ [x], .v (.str x), by simp [txs], trivial, ?_, fun s => ?_, by simp only [List.length_append, List.length_singleton]; omega⟩
      · refine List.pairwise_append.mpr ⟨hri, List.pairwise_singleton .., fun a ha b hb => ?_⟩
        rw [List.mem_singleton.mp hb]
        have hap := (hm a).mp ha
        rw [q] at pw
        have := (List.pairwise_append.mp pw).2.2 a hap x (List.mem_cons_self ..)
        rcases sLt_tri a x with z | z | z
        · exact z
        · rw [z] at ha; exact absurd ha hx
        · exact absurd z this
      · rw [List.mem_append, List.mem_append, hm]
  · rintro _ ⟨zs, e, rfl, ne, hri, hm, hl⟩
    simp only [w__law_rising_2, wSeq, wIfS, wRet, wRetN, wNext, wBreak, wCont, wNever, wSet, wAsg, wPar, wExpr, wFor, wApp, wPop, wSetIx, wVar, wBor, wTake, wC, wBin, wNil, wCons, wPrim, wCall, wTup, wLst, wSl, wNone, wSome, wM0, wM1, wB, wAndT, wOrT, wNotT, wAndV, wOrV, wNotV, wIf, wIsi, wIsi2, wNeg, wChain, wSortedSet, X_txl, X_txt, wIt, wIt.rdf, wRng1, wRng2, wLc, wYes, lcS, wipeG, backG, noMut, rd_d, rd_o, rd_b, rdf_d, rdf_o, fz_d, fz_o, fz_b, sl_d, sl_o, ok_d, ok_o, argSl_d, argSl_o, argSl_b, items_l, items_t, items_s, rds, rdF, stOk_eq, ncO_some, nc_v, nc_own, nc_no, stOks, setAll, wG, mutAt, putAt, Sl.mu, Sl.put, argSls, noB, fewB, putB, endP, cellsOf, cellF, List.getElem?_cons_zero, List.getElem?_cons_succ, List.getElem?_nil, List.set_cons_zero, List.set_cons_succ, List.append_eq, List.nil_append, List.cons_append, List.replicate, List.take_succ_cons, List.take_zero, List.take_nil, List.filterMap_cons, List.filterMap_nil, Option.map_some, Option.map_none, List.length_cons, List.length_nil, F_add_i, F_add_s, F_add_l, F_add_t, F_int, F_cmp_i, F_cmp_s, F_in_l, F_in_t, F_in_s, F_ix_l, F_ix_t, F_ix_s, F_sl_l, F_sl_t, F_sl_s, F_len_l, F_len_t, F_len_s, F_toInt, F_toStr, F_toTup_l, F_toTup_t, F_toLst_l, F_toLst_t, F_all, F_any, F_split, F_join_l, F_join_t, F_part, F_start, F_end, F_strip, F_sorted_l, F_sorted_t, N_none, N_str, N_int, N_bool, N_tup, N_lst, S_str, S_none, S_int, S_bool, S_tup, S_lst, I_str, I_none, I_int, I_bool, I_tup, I_lst, B_str, B_none, B_int, B_bool, B_tup, B_lst, T_str, T_none, T_int, T_bool, T_tup, T_lst, L_str, L_none, L_int, L_bool, L_tup, L_lst, D_str, D_none, D_int, D_bool, D_tup, D_lst, N_dic, S_dic, I_dic, B_dic, T_dic, L_dic, D_dic, E_ss, E_ii, E_bb, E_ns, E_is, E_bs, E_nn, isA_str, isA_int, isA_bool, isA_tuple, isA_list, isA_dict, fEq, fNe, fIsN, fNotN, eqv_str, eqv_int, eqv_bool, exists_eq_left', exists_eq_left, exists_and_left, R.d.injEq, R.o.injEq, PyData.bool.injEq, PyData.str.injEq, PyData.int.injEq, PyData.tuple.injEq, PyData.list.injEq, List.cons.injEq, Option.some.injEq, and_true, true_and, and_self, Bool.not_true, Bool.not_false, Bool.false_eq_true, Bool.true_eq_false, Bool.true_and, Bool.false_and, Bool.true_or, Bool.false_or, if_true, if_false, reduceIte, reduceCtorEq, not_false_eq_true, ne_eq, true_or, or_true, false_or, or_false, List.map_nil, List.map_cons, Option.toList_some, Option.toList_none, false_and, and_false, Bool.not_eq_true, Bool.or_false, Bool.or_true, Bool.and_true, Bool.and_false]
    have ez : zs = riseF xs := riseF_eq hri fun s => by rw [hm, hp.mem_iff]
    rw [ez]
    exact h

def w__law_single_1 : WS := (wRet (wTup (wCons (wC (PyData.str "around")) (wCons (wTup wNil) (wCons (wTup wNil) (wCons (wTup wNil) (wCons (wC PyData.none) (wCons (wC (PyData.bool true)) wNil))))))))
def w__law_single_2 : WS := (wSeq (wIfS (wB (wBin fEq (wBor 0) (wC (PyData.str "default")))) (wRet (wTup (wCons (wC (PyData.str "around")) (wCons (wTup wNil) (wCons (wTup wNil) (wCons (wTup wNil) (wCons (wVar 1) (wCons (wC (PyData.bool false)) wNil)))))))) wNext) w__law_single_1)
def w__law_single_3 : WS := (wSeq (wIfS (wB (wBin fEq (wBor 0) (wC (PyData.str "drop")))) (wRet (wTup (wCons (wC (PyData.str "around")) (wCons (wTup wNil) (wCons (wCall (fs__law_rising) (wCons (wVar 1) wNil)) (wCons (wTup wNil) (wCons (wC PyData.none) (wCons (wC (PyData.bool false)) wNil)))))))) wNext) w__law_single_2)
def w__law_single_4 : WS := (wSeq (wIfS (wB (wBin fEq (wBor 0) (wC (PyData.str "prepend")))) (wRet (wTup (wCons (wC (PyData.str "around")) (wCons (wVar 1) (wCons (wTup wNil) (wCons (wTup wNil) (wCons (wTup wNil) (wCons (wC (PyData.bool false)) wNil)))))))) wNext) w__law_single_3)
def w__law_single_5 : WS := (wSeq (wIfS (wB (wBin fEq (wBor 0) (wC (PyData.str "append")))) (wRet (wTup (wCons (wC (PyData.str "around")) (wCons (wTup wNil) (wCons (wTup wNil) (wCons (wVar 1) (wCons (wTup wNil) (wCons (wC (PyData.bool false)) wNil)))))))) wNext) w__law_single_4)
def w__law_single_6 : WS := (wSeq (wIfS (wB (wBin fEq (wBor 0) (wC (PyData.str "unset")))) (wRet (wTup (wCons (wC (PyData.str "const")) (wCons (wC PyData.none) (wCons (wC (PyData.bool false)) wNil))))) wNext) w__law_single_5)
def w__law_single : WS := (wSeq (wIfS (wB (wBin fEq (wBor 0) (wC (PyData.str "set")))) (wRet (wTup (wCons (wC (PyData.str "const")) (wCons (wVar 1) (wCons (wC (PyData.bool false)) wNil))))) wNext) w__law_single_6)

def fs__law_single : FS := fun as Q _ => ∃ (w : Str) (xs : List Str), as = [.v (.str w), .v (.tuple (txs xs))] ∧ xs.length ≤ 1000000 ∧ Q (.d (Mng.single w xs).d) []
theorem l__law_single : ∀ as Q X, fs__law_single as Q X → as.length = 2 := by rintro as Q X ⟨_, _, rfl, _⟩; rfl
theorem m__law_single : ∀ as Q X, fs__law_single as Q X → w__law_single (as ++ List.replicate 0 Sl.no) (endP 2 Q X) := by
  rintro as Q X ⟨w, xs, rfl, hz, h⟩
  simp only [w__law_single, w__law_single_6, w__law_single_5, w__law_single_4, w__law_single_3, w__law_single_2, w__law_single_1, fs__law_rising, wSeq, wIfS, wRet, wRetN, wNext, wBreak, wCont, wNever, wSet, wAsg, wPar, wExpr, wFor, wApp, wPop, wSetIx, wVar, wBor, wTake, wC, wBin, wNil, wCons, wPrim, wCall, wTup, wLst, wSl, wNone, wSome, wM0, wM1, wB, wAndT, wOrT, wNotT, wAndV, wOrV, wNotV, wIf, wIsi, wIsi2, wNeg, wChain, wSortedSet, X_txl, X_txt, wIt, wIt.rdf, wRng1, wRng2, wLc, wYes, lcS, wipeG, backG, noMut, rd_d, rd_o, rd_b, rdf_d, rdf_o, fz_d, fz_o, fz_b, sl_d, sl_o, ok_d, ok_o, argSl_d, argSl_o, argSl_b, items_l, items_t, items_s, rds, rdF, stOk_eq, ncO_some, nc_v, nc_own, nc_no, stOks, setAll, wG, mutAt, putAt, Sl.mu, Sl.put, argSls, noB, fewB, putB, endP, cellsOf, cellF, List.getElem?_cons_zero, List.getElem?_cons_succ, List.getElem?_nil, List.set_cons_zero, List.set_cons_succ, List.append_eq, List.nil_append, List.cons_append, List.replicate, List.take_succ_cons, List.take_zero, List.take_nil, List.filterMap_cons, List.filterMap_nil, Option.map_some, Option.map_none, List.length_cons, List.length_nil, F_add_i, F_add_s, F_add_l, F_add_t, F_int, F_cmp_i, F_cmp_s, F_in_l, F_in_t, F_in_s, F_ix_l, F_ix_t, F_ix_s, F_sl_l, F_sl_t, F_sl_s, F_len_l, F_len_t, F_len_s, F_toInt, F_toStr, F_toTup_l, F_toTup_t, F_toLst_l, F_toLst_t, F_all, F_any, F_split, F_join_l, F_join_t, F_part, F_start, F_end, F_strip, F_sorted_l, F_sorted_t, N_none, N_str, N_int, N_bool, N_tup, N_lst, S_str, S_none, S_int, S_bool, S_tup, S_lst, I_str, I_none, I_int, I_bool, I_tup, I_lst, B_str, B_none, B_int, B_bool, B_tup, B_lst, T_str, T_none, T_int, T_bool, T_tup, T_lst, L_str, L_none, L_int, L_bool, L_tup, L_lst, D_str, D_none, D_int, D_bool, D_tup, D_lst, N_dic, S_dic, I_dic, B_dic, T_dic, L_dic, D_dic, E_ss, E_ii, E_bb, E_ns, E_is, E_bs, E_nn, isA_str, isA_int, isA_bool, isA_tuple, isA_list, isA_dict, fEq, fNe, fIsN, fNotN, eqv_str, eqv_int, eqv_bool, exists_eq_left', exists_eq_left, exists_and_left, R.d.injEq, R.o.injEq, PyData.bool.injEq, PyData.str.injEq, PyData.int.injEq, PyData.tuple.injEq, PyData.list.injEq, List.cons.injEq, Option.some.injEq, and_true, true_and, and_self, Bool.not_true, Bool.not_false, Bool.false_eq_true, Bool.true_eq_false, Bool.true_and, Bool.false_and, Bool.true_or, Bool.false_or, if_true, if_false, reduceIte, reduceCtorEq, not_false_eq_true, ne_eq, true_or, or_true, false_or, or_false, List.map_nil, List.map_cons, Option.toList_some, Option.toList_none, false_and, and_false, Bool.not_eq_true, Bool.or_false, Bool.or_true, Bool.and_true, Bool.and_false]
  unfold Mng.single at h
  by_cases h1 : w = Str.ofString "set"
  · simp only [h1, beq_self_eq_true, exists_eq_left', exists_eq_left, exists_and_left, R.d.injEq, R.o.injEq, PyData.bool.injEq, PyData.str.injEq, PyData.int.injEq, PyData.tuple.injEq, PyData.list.injEq, List.cons.injEq, Option.some.injEq, and_true, true_and, and_self, Bool.not_true, Bool.not_false, Bool.false_eq_true, Bool.true_eq_false, Bool.true_and, Bool.false_and, Bool.true_or, Bool.false_or, if_true, if_false, reduceIte, reduceCtorEq, not_false_eq_true, ne_eq, true_or, or_true, false_or, or_false, List.map_nil, List.map_cons, Option.toList_some, Option.toList_none, false_and, and_false, Bool.not_eq_true, Bool.or_false, Bool.or_true, Bool.and_true, Bool.and_false] at h ⊢
    exact ⟨by decide, h⟩
  have e1 : (w == Str.ofString "set") = false := by simpa using h1
  rw [if_neg h1] at h
  simp only [e1, exists_eq_left', exists_eq_left, exists_and_left, R.d.injEq, R.o.injEq, PyData.bool.injEq, PyData.str.injEq, PyData.int.injEq, PyData.tuple.injEq, PyData.list.injEq, List.cons.injEq, Option.some.injEq, and_true, true_and, and_self, Bool.not_true, Bool.not_false, Bool.false_eq_true, Bool.true_eq_false, Bool.true_and, Bool.false_and, Bool.true_or, Bool.false_or, if_true, if_false, reduceIte, reduceCtorEq, not_false_eq_true, ne_eq, true_or, or_true, false_or, or_false, List.map_nil, List.map_cons, Option.toList_some, Option.toList_none, false_and, and_false, Bool.not_eq_true, Bool.or_false, Bool.or_true, Bool.and_true, Bool.and_false]
  by_cases h2 : w = Str.ofString "unset"
  · simp only [h2, beq_self_eq_true, exists_eq_left', exists_eq_left, exists_and_left, R.d.injEq, R.o.injEq, PyData.bool.injEq, PyData.str.injEq, PyData.int.injEq, PyData.tuple.injEq, PyData.list.injEq, List.cons.injEq, Option.some.injEq, and_true, true_and, and_self, Bool.not_true, Bool.not_false, Bool.false_eq_true, Bool.true_eq_false, Bool.true_and, Bool.false_and, Bool.true_or, Bool.false_or, if_true, if_false, reduceIte, reduceCtorEq, not_false_eq_true, ne_eq, true_or, or_true, false_or, or_false, List.map_nil, List.map_cons, Option.toList_some, Option.toList_none, false_and, and_false, Bool.not_eq_true, Bool.or_false, Bool.or_true, Bool.and_true, Bool.and_false] at h ⊢
    exact ⟨by decide, h⟩
  have e2 : (w == Str.ofString "unset") = false := by simpa using h2
  rw [if_neg h2] at h
  simp only [e2, exists_eq_left', exists_eq_left, exists_and_left, R.d.injEq, R.o.injEq, PyData.bool.injEq, PyData.str.injEq, PyData.int.injEq, PyData.tuple.injEq, PyData.list.injEq, List.cons.injEq, Option.some.injEq, and_true, true_and, and_self, Bool.not_true, Bool.not_false, Bool.false_eq_true, Bool.true_eq_false, Bool.true_and, Bool.false_and, Bool.true_or, Bool.false_or, if_true, if_false, reduceIte, reduceCtorEq, not_false_eq_true, ne_eq, true_or, or_true, false_or, or_false, List.map_nil, List.map_cons, Option.toList_some, Option.toList_none, false_and, and_false, Bool.not_eq_true, Bool.or_false, Bool.or_true, Bool.and_true, Bool.and_false]
  by_cases h3 : w = Str.ofString "append"
  · simp only [h3, beq_self_eq_true, exists_eq_left', exists_eq_left, exists_and_left, R.d.injEq, R.o.injEq, PyData.bool.injEq, PyData.str.injEq, PyData.int.injEq, PyData.tuple.injEq, PyData.list.injEq, List.cons.injEq, Option.some.injEq, and_true, true_and, and_self, Bool.not_true, Bool.not_false, Bool.false_eq_true, Bool.true_eq_false, Bool.true_and, Bool.false_and, Bool.true_or, Bool.false_or, if_true, if_false, reduceIte, reduceCtorEq, not_false_eq_true, ne_eq, true_or, or_true, false_or, or_false, List.map_nil, List.map_cons, Option.toList_some, Option.toList_none, false_and, and_false, Bool.not_eq_true, Bool.or_false, Bool.or_true, Bool.and_true, Bool.and_false] at h ⊢
    (repeat refine ⟨by decide, ?_⟩)
    exact h
  have e3 : (w == Str.ofString "append") = false := by simpa using h3
  rw [if_neg h3] at h
  simp only [e3, exists_eq_left', exists_eq_left, exists_and_left, R.d.injEq, R.o.injEq, PyData.bool.injEq, PyData.str.injEq, PyData.int.injEq, PyData.tuple.injEq, PyData.list.injEq, List.cons.injEq, Option.some.injEq, and_true, true_and, and_self, Bool.not_true, Bool.not_false, Bool.false_eq_true, Bool.true_eq_false, Bool.true_and, Bool.false_and, Bool.true_or, Bool.false_or, if_true, if_false, reduceIte, reduceCtorEq, not_false_eq_true, ne_eq, true_or, or_true, false_or, or_false, List.map_nil, List.map_cons, Option.toList_some, Option.toList_none, false_and, and_false, Bool.not_eq_true, Bool.or_false, Bool.or_true, Bool.and_true, Bool.and_false]
  by_cases h4 : w = Str.ofString "prepend"
  · simp only [h4, beq_self_eq_true, exists_eq_left', exists_eq_left, exists_and_left, R.d.injEq, R.o.injEq, PyData.bool.injEq, PyData.str.injEq, PyData.int.injEq, PyData.tuple.injEq, PyData.list.injEq, List.cons.injEq, Option.some.injEq, and_true, true_and, and_self, Bool.not_true, Bool.not_false, Bool.false_eq_true, Bool.true_eq_false, Bool.true_and, Bool.false_and, Bool.true_or, Bool.false_or, if_true, if_false, reduceIte, reduceCtorEq, not_false_eq_true, ne_eq, true_or, or_true, false_or, or_false, List.map_nil, List.map_cons, Option.toList_some, Option.toList_none, false_and, and_false, Bool.not_eq_true, Bool.or_false, Bool.or_true, Bool.and_true, Bool.and_false] at h ⊢
    (repeat refine ⟨by decide, ?_⟩)
    exact h
  have e4 : (w == Str.ofString "prepend") = false := by simpa using h4
  rw [if_neg h4] at h
  simp only [e4, exists_eq_left', exists_eq_left, exists_and_left, R.d.injEq, R.o.injEq, PyData.bool.injEq, PyData.str.injEq, PyData.int.injEq, PyData.tuple.injEq, PyData.list.injEq, List.cons.injEq, Option.some.injEq, and_true, true_and, and_self, Bool.not_true, Bool.not_false, Bool.false_eq_true, Bool.true_eq_false, Bool.true_and, Bool.false_and, Bool.true_or, Bool.false_or, if_true, if_false, reduceIte, reduceCtorEq, not_false_eq_true, ne_eq, true_or, or_true, false_or, or_false, List.map_nil, List.map_cons, Option.toList_some, Option.toList_none, false_and, and_false, Bool.not_eq_true, Bool.or_false, Bool.or_true, Bool.and_true, Bool.and_false]
  by_cases h5 : w = Str.ofString "drop"
  · simp only [h5, beq_self_eq_true, exists_eq_left', exists_eq_left, exists_and_left, R.d.injEq, R.o.injEq, PyData.bool.injEq, PyData.str.injEq, PyData.int.injEq, PyData.tuple.injEq, PyData.list.injEq, List.cons.injEq, Option.some.injEq, and_true, true_and, and_self, Bool.not_true, Bool.not_false, Bool.false_eq_true, Bool.true_eq_false, Bool.true_and, Bool.false_and, Bool.true_or, Bool.false_or, if_true, if_false, reduceIte, reduceCtorEq, not_false_eq_true, ne_eq, true_or, or_true, false_or, or_false, List.map_nil, List.map_cons, Option.toList_some, Option.toList_none, false_and, and_false, Bool.not_eq_true, Bool.or_false, Bool.or_true, Bool.and_true, Bool.and_false] at h ⊢
    refine ⟨by decide, xs, _, rfl, .inl rfl, hz, by decide, by decide, h⟩
  have e5 : (w == Str.ofString "drop") = false := by simpa using h5
  rw [if_neg h5] at h
  simp only [e5, exists_eq_left', exists_eq_left, exists_and_left, R.d.injEq, R.o.injEq, PyData.bool.injEq, PyData.str.injEq, PyData.int.injEq, PyData.tuple.injEq, PyData.list.injEq, List.cons.injEq, Option.some.injEq, and_true, true_and, and_self, Bool.not_true, Bool.not_false, Bool.false_eq_true, Bool.true_eq_false, Bool.true_and, Bool.false_and, Bool.true_or, Bool.false_or, if_true, if_false, reduceIte, reduceCtorEq, not_false_eq_true, ne_eq, true_or, or_true, false_or, or_false, List.map_nil, List.map_cons, Option.toList_some, Option.toList_none, false_and, and_false, Bool.not_eq_true, Bool.or_false, Bool.or_true, Bool.and_true, Bool.and_false]
  by_cases h6 : w = Str.ofString "default"
  · simp only [h6, beq_self_eq_true, exists_eq_left', exists_eq_left, exists_and_left, R.d.injEq, R.o.injEq, PyData.bool.injEq, PyData.str.injEq, PyData.int.injEq, PyData.tuple.injEq, PyData.list.injEq, List.cons.injEq, Option.some.injEq, and_true, true_and, and_self, Bool.not_true, Bool.not_false, Bool.false_eq_true, Bool.true_eq_false, Bool.true_and, Bool.false_and, Bool.true_or, Bool.false_or, if_true, if_false, reduceIte, reduceCtorEq, not_false_eq_true, ne_eq, true_or, or_true, false_or, or_false, List.map_nil, List.map_cons, Option.toList_some, Option.toList_none, false_and, and_false, Bool.not_eq_true, Bool.or_false, Bool.or_true, Bool.and_true, Bool.and_false] at h ⊢
    (repeat refine ⟨by decide, ?_⟩)
    exact h
  have e6 : (w == Str.ofString "default") = false := by simpa using h6
  rw [if_neg h6] at h
  simp only [e6, exists_eq_left', exists_eq_left, exists_and_left, R.d.injEq, R.o.injEq, PyData.bool.injEq, PyData.str.injEq, PyData.int.injEq, PyData.tuple.injEq, PyData.list.injEq, List.cons.injEq, Option.some.injEq, and_true, true_and, and_self, Bool.not_true, Bool.not_false, Bool.false_eq_true, Bool.true_eq_false, Bool.true_and, Bool.false_and, Bool.true_or, Bool.false_or, if_true, if_false, reduceIte, reduceCtorEq, not_false_eq_true, ne_eq, true_or, or_true, false_or, or_false, List.map_nil, List.map_cons, Option.toList_some, Option.toList_none, false_and, and_false, Bool.not_eq_true, Bool.or_false, Bool.or_true, Bool.and_true, Bool.and_false]
  (repeat refine ⟨by decide, ?_⟩)
  exact h

def w__law_after_1 : WS := (wRet (wTup (wCons (wC (PyData.str "const")) (wCons (wVar 2) (wCons (wBin fIx (wBor 1) (wC (PyData.int 5))) wNil)))))
def w__law_after_2 : WS := (wSeq (wIfS (wB (wBin fIsN (wBor 2) (wC PyData.none))) (wSet (wIf (wB (wBin fIsN (wBin fIx (wBor 1) (wC (PyData.int 4))) (wC PyData.none))) (wC PyData.none) (wBin fAdd (wBin fAdd (wBin fIx (wBor 1) (wC (PyData.int 1))) (wBin fIx (wBor 1) (wC (PyData.int 4)))) (wBin fIx (wBor 1) (wC (PyData.int 3))))) 2) (wSet (wBin fAdd (wBin fAdd (wBin fIx (wBor 1) (wC (PyData.int 1))) (wCall (fs__law_kept) (wCons (wVar 2) (wCons (wBin fIx (wBor 1) (wC (PyData.int 2))) wNil)))) (wBin fIx (wBor 1) (wC (PyData.int 3)))) 2)) w__law_after_1)
def w__law_after_3 : WS := (wRet (wTup (wCons (wC (PyData.str "around")) (wCons (wVar 4) (wCons (wCall (fs__law_rising) (wCons (wBin fAdd (wBin fIx (wBor 0) (wC (PyData.int 2))) (wBor 3)) wNil)) (wCons (wVar 5) (wCons (wVar 6) (wCons (wBin fIx (wBor 1) (wC (PyData.int 5))) wNil))))))))
def w__law_after_4 : WS := (wSeq (wSet (wIf (wB (wBin fIsN (wBin fIx (wBor 0) (wC (PyData.int 4))) (wC PyData.none))) (wBin fIx (wBor 1) (wC (PyData.int 4))) (wCall (fs__law_kept) (wCons (wBin fIx (wBor 0) (wC (PyData.int 4))) (wCons (wVar 3) wNil)))) 6) w__law_after_3)
def w__law_after_5 : WS := (wSeq (wSet (wBin fAdd (wCall (fs__law_kept) (wCons (wBin fIx (wBor 0) (wC (PyData.int 3))) (wCons (wVar 3) wNil))) (wBin fIx (wBor 1) (wC (PyData.int 3)))) 5) w__law_after_4)
def w__law_after_6 : WS := (wSeq (wSet (wBin fAdd (wBin fIx (wBor 1) (wC (PyData.int 1))) (wCall (fs__law_kept) (wCons (wBin fIx (wBor 0) (wC (PyData.int 1))) (wCons (wVar 3) wNil)))) 4) w__law_after_5)
def w__law_after_7 : WS := (wSeq (wSet (wBin fIx (wBor 1) (wC (PyData.int 2))) 3) w__law_after_6)
def w__law_after_8 : WS := (wSeq (wIfS (wB (wBin fEq (wBin fIx (wBor 0) (wC (PyData.int 0))) (wC (PyData.str "const")))) (wSeq (wSet (wBin fIx (wBor 0) (wC (PyData.int 1))) 2) w__law_after_2) wNext) w__law_after_7)
def w__law_after_9 : WS := (wSeq (wIfS (wB (wBin fEq (wBin fIx (wBor 1) (wC (PyData.int 0))) (wC (PyData.str "const")))) (wRet (wTake 1)) wNext) w__law_after_8)
def w__law_after : WS := (wSeq (wIfS (wB (wBin fIx (wBor 0) (wBin fSub (wPrim fLen (wCons (wBor 0) wNil)) (wC (PyData.int 1))))) (wRet (wTake 0)) wNext) w__law_after_9)

def fs__law_after : FS := fun as Q _ => ∃ (f s : Mng) (a b : Nat), as = [.v f.d, .v s.d] ∧ f.Ok a ∧ s.Ok b ∧ a + b ≤ 1000000 ∧ Q (.d (f.after s).d) []
theorem l__law_after : ∀ as Q X, fs__law_after as Q X → as.length = 2 := by rintro as Q X ⟨_, _, _, _, rfl, _⟩; rfl
theorem cst_ne : (Str.ofString "around" == Str.ofString "const") = false := by decide +kernel
theorem m__law_after : ∀ as Q X, fs__law_after as Q X → w__law_after (as ++ List.replicate 5 Sl.no) (endP 2 Q X) := by
  rintro as Q X ⟨f, s, a, b, rfl, hf, hs, hz, h⟩
  have i30 : ∀ x y z : PyData, atI [x, y, z] 0 = some x := fun _ _ _ => rfl
  have i31 : ∀ x y z : PyData, atI [x, y, z] 1 = some y := fun _ _ _ => rfl
  have i32 : ∀ x y z : PyData, atI [x, y, z] (((0 + 1 + 1 + 1 : Nat) : Int) - 1) = some z := fun _ _ _ => rfl
  have i60 : ∀ x y z u v w : PyData, atI [x, y, z, u, v, w] 0 = some x := fun _ _ _ _ _ _ => rfl
  have i61 : ∀ x y z u v w : PyData, atI [x, y, z, u, v, w] 1 = some y := fun _ _ _ _ _ _ => rfl
  have i62 : ∀ x y z u v w : PyData, atI [x, y, z, u, v, w] 2 = some z := fun _ _ _ _ _ _ => rfl
  have i63 : ∀ x y z u v w : PyData, atI [x, y, z, u, v, w] 3 = some u := fun _ _ _ _ _ _ => rfl
  have i64 : ∀ x y z u v w : PyData, atI [x, y, z, u, v, w] 4 = some v := fun _ _ _ _ _ _ => rfl
  have i65 : ∀ x y z u v w : PyData, atI [x, y, z, u, v, w] 5 = some w := fun _ _ _ _ _ _ => rfl
  have i66 : ∀ x y z u v w : PyData, atI [x, y, z, u, v, w] (((0 + 1 + 1 + 1 + 1 + 1 + 1 : Nat) : Int) - 1) = some w := fun _ _ _ _ _ _ => rfl
  have zl : ∀ n : Nat, n ≤ 1000000 → n ≤ sizeLine := fun n hn => Nat.le_trans hn (by decide)
  have hfz := hf.sz
  have hsz := hs.sz
  unfold Mng.after at h
  cases f with
  | c v fb =>
    cases fb with
    | true =>
      simp only [w__law_after, Mng.d, Mng.locked, wSeq, wIfS, wRet, wRetN, wNext, wBreak, wCont, wNever, wSet, wAsg, wPar, wExpr, wFor, wApp, wPop, wSetIx, wVar, wBor, wTake, wC, wBin, wNil, wCons, wPrim, wCall, wTup, wLst, wSl, wNone, wSome, wM0, wM1, wB, wAndT, wOrT, wNotT, wAndV, wOrV, wNotV, wIf, wIsi, wIsi2, wNeg, wChain, wSortedSet, X_txl, X_txt, wIt, wIt.rdf, wRng1, wRng2, wLc, wYes, lcS, wipeG, backG, noMut, rd_d, rd_o, rd_b, rdf_d, rdf_o, fz_d, fz_o, fz_b, sl_d, sl_o, ok_d, ok_o, argSl_d, argSl_o, argSl_b, items_l, items_t, items_s, rds, rdF, stOk_eq, ncO_some, nc_v, nc_own, nc_no, stOks, setAll, wG, mutAt, putAt, Sl.mu, Sl.put, argSls, noB, fewB, putB, endP, cellsOf, cellF, List.getElem?_cons_zero, List.getElem?_cons_succ, List.getElem?_nil, List.set_cons_zero, List.set_cons_succ, List.append_eq, List.nil_append, List.cons_append, List.replicate, List.take_succ_cons, List.take_zero, List.take_nil, List.filterMap_cons, List.filterMap_nil, Option.map_some, Option.map_none, List.length_cons, List.length_nil, F_add_i, F_add_s, F_add_l, F_add_t, F_int, F_cmp_i, F_cmp_s, F_in_l, F_in_t, F_in_s, F_ix_l, F_ix_t, F_ix_s, F_sl_l, F_sl_t, F_sl_s, F_len_l, F_len_t, F_len_s, F_toInt, F_toStr, F_toTup_l, F_toTup_t, F_toLst_l, F_toLst_t, F_all, F_any, F_split, F_join_l, F_join_t, F_part, F_start, F_end, F_strip, F_sorted_l, F_sorted_t, N_none, N_str, N_int, N_bool, N_tup, N_lst, S_str, S_none, S_int, S_bool, S_tup, S_lst, I_str, I_none, I_int, I_bool, I_tup, I_lst, B_str, B_none, B_int, B_bool, B_tup, B_lst, T_str, T_none, T_int, T_bool, T_tup, T_lst, L_str, L_none, L_int, L_bool, L_tup, L_lst, D_str, D_none, D_int, D_bool, D_tup, D_lst, N_dic, S_dic, I_dic, B_dic, T_dic, L_dic, D_dic, E_ss, E_ii, E_bb, E_ns, E_is, E_bs, E_nn, isA_str, isA_int, isA_bool, isA_tuple, isA_list, isA_dict, fEq, fNe, fIsN, fNotN, eqv_str, eqv_int, eqv_bool, exists_eq_left', exists_eq_left, exists_and_left, R.d.injEq, R.o.injEq, PyData.bool.injEq, PyData.str.injEq, PyData.int.injEq, PyData.tuple.injEq, PyData.list.injEq, List.cons.injEq, Option.some.injEq, and_true, true_and, and_self, Bool.not_true, Bool.not_false, Bool.false_eq_true, Bool.true_eq_false, Bool.true_and, Bool.false_and, Bool.true_or, Bool.false_or, if_true, if_false, reduceIte, reduceCtorEq, not_false_eq_true, ne_eq, true_or, or_true, false_or, or_false, List.map_nil, List.map_cons, Option.toList_some, Option.toList_none, false_and, and_false, Bool.not_eq_true, Bool.or_false, Bool.or_true, Bool.and_true, Bool.and_false, i32] at h ⊢
      exact h
    | false =>
      simp only [w__law_after, w__law_after_9, Mng.d, Mng.locked, wSeq, wIfS, wRet, wRetN, wNext, wBreak, wCont, wNever, wSet, wAsg, wPar, wExpr, wFor, wApp, wPop, wSetIx, wVar, wBor, wTake, wC, wBin, wNil, wCons, wPrim, wCall, wTup, wLst, wSl, wNone, wSome, wM0, wM1, wB, wAndT, wOrT, wNotT, wAndV, wOrV, wNotV, wIf, wIsi, wIsi2, wNeg, wChain, wSortedSet, X_txl, X_txt, wIt, wIt.rdf, wRng1, wRng2, wLc, wYes, lcS, wipeG, backG, noMut, rd_d, rd_o, rd_b, rdf_d, rdf_o, fz_d, fz_o, fz_b, sl_d, sl_o, ok_d, ok_o, argSl_d, argSl_o, argSl_b, items_l, items_t, items_s, rds, rdF, stOk_eq, ncO_some, nc_v, nc_own, nc_no, stOks, setAll, wG, mutAt, putAt, Sl.mu, Sl.put, argSls, noB, fewB, putB, endP, cellsOf, cellF, List.getElem?_cons_zero, List.getElem?_cons_succ, List.getElem?_nil, List.set_cons_zero, List.set_cons_succ, List.append_eq, List.nil_append, List.cons_append, List.replicate, List.take_succ_cons, List.take_zero, List.take_nil, List.filterMap_cons, List.filterMap_nil, Option.map_some, Option.map_none, List.length_cons, List.length_nil, F_add_i, F_add_s, F_add_l, F_add_t, F_int, F_cmp_i, F_cmp_s, F_in_l, F_in_t, F_in_s, F_ix_l, F_ix_t, F_ix_s, F_sl_l, F_sl_t, F_sl_s, F_len_l, F_len_t, F_len_s, F_toInt, F_toStr, F_toTup_l, F_toTup_t, F_toLst_l, F_toLst_t, F_all, F_any, F_split, F_join_l, F_join_t, F_part, F_start, F_end, F_strip, F_sorted_l, F_sorted_t, N_none, N_str, N_int, N_bool, N_tup, N_lst, S_str, S_none, S_int, S_bool, S_tup, S_lst, I_str, I_none, I_int, I_bool, I_tup, I_lst, B_str, B_none, B_int, B_bool, B_tup, B_lst, T_str, T_none, T_int, T_bool, T_tup, T_lst, L_str, L_none, L_int, L_bool, L_tup, L_lst, D_str, D_none, D_int, D_bool, D_tup, D_lst, N_dic, S_dic, I_dic, B_dic, T_dic, L_dic, D_dic, E_ss, E_ii, E_bb, E_ns, E_is, E_bs, E_nn, isA_str, isA_int, isA_bool, isA_tuple, isA_list, isA_dict, fEq, fNe, fIsN, fNotN, eqv_str, eqv_int, eqv_bool, exists_eq_left', exists_eq_left, exists_and_left, R.d.injEq, R.o.injEq, PyData.bool.injEq, PyData.str.injEq, PyData.int.injEq, PyData.tuple.injEq, PyData.list.injEq, List.cons.injEq, Option.some.injEq, and_true, true_and, and_self, Bool.not_true, Bool.not_false, Bool.false_eq_true, Bool.true_eq_false, Bool.true_and, Bool.false_and, Bool.true_or, Bool.false_or, if_true, if_false, reduceIte, reduceCtorEq, not_false_eq_true, ne_eq, true_or, or_true, false_or, or_false, List.map_nil, List.map_cons, Option.toList_some, Option.toList_none, false_and, and_false, Bool.not_eq_true, Bool.or_false, Bool.or_true, Bool.and_true, Bool.and_false, i32] at h ⊢
      cases s with
      | c v2 b2 =>
        simp only [Mng.d, i30, wSeq, wIfS, wRet, wRetN, wNext, wBreak, wCont, wNever, wSet, wAsg, wPar, wExpr, wFor, wApp, wPop, wSetIx, wVar, wBor, wTake, wC, wBin, wNil, wCons, wPrim, wCall, wTup, wLst, wSl, wNone, wSome, wM0, wM1, wB, wAndT, wOrT, wNotT, wAndV, wOrV, wNotV, wIf, wIsi, wIsi2, wNeg, wChain, wSortedSet, X_txl, X_txt, wIt, wIt.rdf, wRng1, wRng2, wLc, wYes, lcS, wipeG, backG, noMut, rd_d, rd_o, rd_b, rdf_d, rdf_o, fz_d, fz_o, fz_b, sl_d, sl_o, ok_d, ok_o, argSl_d, argSl_o, argSl_b, items_l, items_t, items_s, rds, rdF, stOk_eq, ncO_some, nc_v, nc_own, nc_no, stOks, setAll, wG, mutAt, putAt, Sl.mu, Sl.put, argSls, noB, fewB, putB, endP, cellsOf, cellF, List.getElem?_cons_zero, List.getElem?_cons_succ, List.getElem?_nil, List.set_cons_zero, List.set_cons_succ, List.append_eq, List.nil_append, List.cons_append, List.replicate, List.take_succ_cons, List.take_zero, List.take_nil, List.filterMap_cons, List.filterMap_nil, Option.map_some, Option.map_none, List.length_cons, List.length_nil, F_add_i, F_add_s, F_add_l, F_add_t, F_int, F_cmp_i, F_cmp_s, F_in_l, F_in_t, F_in_s, F_ix_l, F_ix_t, F_ix_s, F_sl_l, F_sl_t, F_sl_s, F_len_l, F_len_t, F_len_s, F_toInt, F_toStr, F_toTup_l, F_toTup_t, F_toLst_l, F_toLst_t, F_all, F_any, F_split, F_join_l, F_join_t, F_part, F_start, F_end, F_strip, F_sorted_l, F_sorted_t, N_none, N_str, N_int, N_bool, N_tup, N_lst, S_str, S_none, S_int, S_bool, S_tup, S_lst, I_str, I_none, I_int, I_bool, I_tup, I_lst, B_str, B_none, B_int, B_bool, B_tup, B_lst, T_str, T_none, T_int, T_bool, T_tup, T_lst, L_str, L_none, L_int, L_bool, L_tup, L_lst, D_str, D_none, D_int, D_bool, D_tup, D_lst, N_dic, S_dic, I_dic, B_dic, T_dic, L_dic, D_dic, E_ss, E_ii, E_bb, E_ns, E_is, E_bs, E_nn, isA_str, isA_int, isA_bool, isA_tuple, isA_list, isA_dict, fEq, fNe, fIsN, fNotN, eqv_str, eqv_int, eqv_bool, exists_eq_left', exists_eq_left, exists_and_left, R.d.injEq, R.o.injEq, PyData.bool.injEq, PyData.str.injEq, PyData.int.injEq, PyData.tuple.injEq, PyData.list.injEq, List.cons.injEq, Option.some.injEq, and_true, true_and, and_self, Bool.not_true, Bool.not_false, Bool.false_eq_true, Bool.true_eq_false, Bool.true_and, Bool.false_and, Bool.true_or, Bool.false_or, if_true, if_false, reduceIte, reduceCtorEq, not_false_eq_true, ne_eq, true_or, or_true, false_or, or_false, List.map_nil, List.map_cons, Option.toList_some, Option.toList_none, false_and, and_false, Bool.not_eq_true, Bool.or_false, Bool.or_true, Bool.and_true, Bool.and_false, beq_self_eq_true] at h ⊢
        exact h
      | a bf dr bh df b2 =>
        simp only [Mng.d, w__law_after_8, w__law_after_2, i60, i30, i31, wSeq, wIfS, wRet, wRetN, wNext, wBreak, wCont, wNever, wSet, wAsg, wPar, wExpr, wFor, wApp, wPop, wSetIx, wVar, wBor, wTake, wC, wBin, wNil, wCons, wPrim, wCall, wTup, wLst, wSl, wNone, wSome, wM0, wM1, wB, wAndT, wOrT, wNotT, wAndV, wOrV, wNotV, wIf, wIsi, wIsi2, wNeg, wChain, wSortedSet, X_txl, X_txt, wIt, wIt.rdf, wRng1, wRng2, wLc, wYes, lcS, wipeG, backG, noMut, rd_d, rd_o, rd_b, rdf_d, rdf_o, fz_d, fz_o, fz_b, sl_d, sl_o, ok_d, ok_o, argSl_d, argSl_o, argSl_b, items_l, items_t, items_s, rds, rdF, stOk_eq, ncO_some, nc_v, nc_own, nc_no, stOks, setAll, wG, mutAt, putAt, Sl.mu, Sl.put, argSls, noB, fewB, putB, endP, cellsOf, cellF, List.getElem?_cons_zero, List.getElem?_cons_succ, List.getElem?_nil, List.set_cons_zero, List.set_cons_succ, List.append_eq, List.nil_append, List.cons_append, List.replicate, List.take_succ_cons, List.take_zero, List.take_nil, List.filterMap_cons, List.filterMap_nil, Option.map_some, Option.map_none, List.length_cons, List.length_nil, F_add_i, F_add_s, F_add_l, F_add_t, F_int, F_cmp_i, F_cmp_s, F_in_l, F_in_t, F_in_s, F_ix_l, F_ix_t, F_ix_s, F_sl_l, F_sl_t, F_sl_s, F_len_l, F_len_t, F_len_s, F_toInt, F_toStr, F_toTup_l, F_toTup_t, F_toLst_l, F_toLst_t, F_all, F_any, F_split, F_join_l, F_join_t, F_part, F_start, F_end, F_strip, F_sorted_l, F_sorted_t, N_none, N_str, N_int, N_bool, N_tup, N_lst, S_str, S_none, S_int, S_bool, S_tup, S_lst, I_str, I_none, I_int, I_bool, I_tup, I_lst, B_str, B_none, B_int, B_bool, B_tup, B_lst, T_str, T_none, T_int, T_bool, T_tup, T_lst, L_str, L_none, L_int, L_bool, L_tup, L_lst, D_str, D_none, D_int, D_bool, D_tup, D_lst, N_dic, S_dic, I_dic, B_dic, T_dic, L_dic, D_dic, E_ss, E_ii, E_bb, E_ns, E_is, E_bs, E_nn, isA_str, isA_int, isA_bool, isA_tuple, isA_list, isA_dict, fEq, fNe, fIsN, fNotN, eqv_str, eqv_int, eqv_bool, exists_eq_left', exists_eq_left, exists_and_left, R.d.injEq, R.o.injEq, PyData.bool.injEq, PyData.str.injEq, PyData.int.injEq, PyData.tuple.injEq, PyData.list.injEq, List.cons.injEq, Option.some.injEq, and_true, true_and, and_self, Bool.not_true, Bool.not_false, Bool.false_eq_true, Bool.true_eq_false, Bool.true_and, Bool.false_and, Bool.true_or, Bool.false_or, if_true, if_false, reduceIte, reduceCtorEq, not_false_eq_true, ne_eq, true_or, or_true, false_or, or_false, List.map_nil, List.map_cons, Option.toList_some, Option.toList_none, false_and, and_false, Bool.not_eq_true, Bool.or_false, Bool.or_true, Bool.and_true, Bool.and_false, cst_ne, beq_self_eq_true] at h ⊢
        simp only [Mng.items, List.length_append] at hsz
        cases v with
        | none =>
          cases df with
          | none =>
            simp only [Mng.d, optT, w__law_after_1, i64, i65, wSeq, wIfS, wRet, wRetN, wNext, wBreak, wCont, wNever, wSet, wAsg, wPar, wExpr, wFor, wApp, wPop, wSetIx, wVar, wBor, wTake, wC, wBin, wNil, wCons, wPrim, wCall, wTup, wLst, wSl, wNone, wSome, wM0, wM1, wB, wAndT, wOrT, wNotT, wAndV, wOrV, wNotV, wIf, wIsi, wIsi2, wNeg, wChain, wSortedSet, X_txl, X_txt, wIt, wIt.rdf, wRng1, wRng2, wLc, wYes, lcS, wipeG, backG, noMut, rd_d, rd_o, rd_b, rdf_d, rdf_o, fz_d, fz_o, fz_b, sl_d, sl_o, ok_d, ok_o, argSl_d, argSl_o, argSl_b, items_l, items_t, items_s, rds, rdF, stOk_eq, ncO_some, nc_v, nc_own, nc_no, stOks, setAll, wG, mutAt, putAt, Sl.mu, Sl.put, argSls, noB, fewB, putB, endP, cellsOf, cellF, List.getElem?_cons_zero, List.getElem?_cons_succ, List.getElem?_nil, List.set_cons_zero, List.set_cons_succ, List.append_eq, List.nil_append, List.cons_append, List.replicate, List.take_succ_cons, List.take_zero, List.take_nil, List.filterMap_cons, List.filterMap_nil, Option.map_some, Option.map_none, List.length_cons, List.length_nil, F_add_i, F_add_s, F_add_l, F_add_t, F_int, F_cmp_i, F_cmp_s, F_in_l, F_in_t, F_in_s, F_ix_l, F_ix_t, F_ix_s, F_sl_l, F_sl_t, F_sl_s, F_len_l, F_len_t, F_len_s, F_toInt, F_toStr, F_toTup_l, F_toTup_t, F_toLst_l, F_toLst_t, F_all, F_any, F_split, F_join_l, F_join_t, F_part, F_start, F_end, F_strip, F_sorted_l, F_sorted_t, N_none, N_str, N_int, N_bool, N_tup, N_lst, S_str, S_none, S_int, S_bool, S_tup, S_lst, I_str, I_none, I_int, I_bool, I_tup, I_lst, B_str, B_none, B_int, B_bool, B_tup, B_lst, T_str, T_none, T_int, T_bool, T_tup, T_lst, L_str, L_none, L_int, L_bool, L_tup, L_lst, D_str, D_none, D_int, D_bool, D_tup, D_lst, N_dic, S_dic, I_dic, B_dic, T_dic, L_dic, D_dic, E_ss, E_ii, E_bb, E_ns, E_is, E_bs, E_nn, isA_str, isA_int, isA_bool, isA_tuple, isA_list, isA_dict, fEq, fNe, fIsN, fNotN, eqv_str, eqv_int, eqv_bool, exists_eq_left', exists_eq_left, exists_and_left, R.d.injEq, R.o.injEq, PyData.bool.injEq, PyData.str.injEq, PyData.int.injEq, PyData.tuple.injEq, PyData.list.injEq, List.cons.injEq, Option.some.injEq, and_true, true_and, and_self, Bool.not_true, Bool.not_false, Bool.false_eq_true, Bool.true_eq_false, Bool.true_and, Bool.false_and, Bool.true_or, Bool.false_or, if_true, if_false, reduceIte, reduceCtorEq, not_false_eq_true, ne_eq, true_or, or_true, false_or, or_false, List.map_nil, List.map_cons, Option.toList_some, Option.toList_none, false_and, and_false, Bool.not_eq_true, Bool.or_false, Bool.or_true, Bool.and_true, Bool.and_false] at h ⊢
            exact ⟨by decide, h⟩
          | some d =>
            simp only [optL] at hsz
            simp only [Mng.d, optT, w__law_after_1, i64, i65, i61, i63, wSeq, wIfS, wRet, wRetN, wNext, wBreak, wCont, wNever, wSet, wAsg, wPar, wExpr, wFor, wApp, wPop, wSetIx, wVar, wBor, wTake, wC, wBin, wNil, wCons, wPrim, wCall, wTup, wLst, wSl, wNone, wSome, wM0, wM1, wB, wAndT, wOrT, wNotT, wAndV, wOrV, wNotV, wIf, wIsi, wIsi2, wNeg, wChain, wSortedSet, X_txl, X_txt, wIt, wIt.rdf, wRng1, wRng2, wLc, wYes, lcS, wipeG, backG, noMut, rd_d, rd_o, rd_b, rdf_d, rdf_o, fz_d, fz_o, fz_b, sl_d, sl_o, ok_d, ok_o, argSl_d, argSl_o, argSl_b, items_l, items_t, items_s, rds, rdF, stOk_eq, ncO_some, nc_v, nc_own, nc_no, stOks, setAll, wG, mutAt, putAt, Sl.mu, Sl.put, argSls, noB, fewB, putB, endP, cellsOf, cellF, List.getElem?_cons_zero, List.getElem?_cons_succ, List.getElem?_nil, List.set_cons_zero, List.set_cons_succ, List.append_eq, List.nil_append, List.cons_append, List.replicate, List.take_succ_cons, List.take_zero, List.take_nil, List.filterMap_cons, List.filterMap_nil, Option.map_some, Option.map_none, List.length_cons, List.length_nil, F_add_i, F_add_s, F_add_l, F_add_t, F_int, F_cmp_i, F_cmp_s, F_in_l, F_in_t, F_in_s, F_ix_l, F_ix_t, F_ix_s, F_sl_l, F_sl_t, F_sl_s, F_len_l, F_len_t, F_len_s, F_toInt, F_toStr, F_toTup_l, F_toTup_t, F_toLst_l, F_toLst_t, F_all, F_any, F_split, F_join_l, F_join_t, F_part, F_start, F_end, F_strip, F_sorted_l, F_sorted_t, N_none, N_str, N_int, N_bool, N_tup, N_lst, S_str, S_none, S_int, S_bool, S_tup, S_lst, I_str, I_none, I_int, I_bool, I_tup, I_lst, B_str, B_none, B_int, B_bool, B_tup, B_lst, T_str, T_none, T_int, T_bool, T_tup, T_lst, L_str, L_none, L_int, L_bool, L_tup, L_lst, D_str, D_none, D_int, D_bool, D_tup, D_lst, N_dic, S_dic, I_dic, B_dic, T_dic, L_dic, D_dic, E_ss, E_ii, E_bb, E_ns, E_is, E_bs, E_nn, isA_str, isA_int, isA_bool, isA_tuple, isA_list, isA_dict, fEq, fNe, fIsN, fNotN, eqv_str, eqv_int, eqv_bool, exists_eq_left', exists_eq_left, exists_and_left, R.d.injEq, R.o.injEq, PyData.bool.injEq, PyData.str.injEq, PyData.int.injEq, PyData.tuple.injEq, PyData.list.injEq, List.cons.injEq, Option.some.injEq, and_true, true_and, and_self, Bool.not_true, Bool.not_false, Bool.false_eq_true, Bool.true_eq_false, Bool.true_and, Bool.false_and, Bool.true_or, Bool.false_or, if_true, if_false, reduceIte, reduceCtorEq, not_false_eq_true, ne_eq, true_or, or_true, false_or, or_false, List.map_nil, List.map_cons, Option.toList_some, Option.toList_none, false_and, and_false, Bool.not_eq_true, Bool.or_false, Bool.or_true, Bool.and_true, Bool.and_false, List.length_map, List.length_append, txs, ← List.map_append] at h ⊢
            exact ⟨zl _ (by omega), zl _ (by omega), by decide, h⟩
        | some v =>
          have lk := len_kept v dr
          simp only [Mng.items, optL] at hfz
          simp only [Mng.d, optT, w__law_after_1, i62, i65, i61, i63, fs__law_kept, wSeq, wIfS, wRet, wRetN, wNext, wBreak, wCont, wNever, wSet, wAsg, wPar, wExpr, wFor, wApp, wPop, wSetIx, wVar, wBor, wTake, wC, wBin, wNil, wCons, wPrim, wCall, wTup, wLst, wSl, wNone, wSome, wM0, wM1, wB, wAndT, wOrT, wNotT, wAndV, wOrV, wNotV, wIf, wIsi, wIsi2, wNeg, wChain, wSortedSet, X_txl, X_txt, wIt, wIt.rdf, wRng1, wRng2, wLc, wYes, lcS, wipeG, backG, noMut, rd_d, rd_o, rd_b, rdf_d, rdf_o, fz_d, fz_o, fz_b, sl_d, sl_o, ok_d, ok_o, argSl_d, argSl_o, argSl_b, items_l, items_t, items_s, rds, rdF, stOk_eq, ncO_some, nc_v, nc_own, nc_no, stOks, setAll, wG, mutAt, putAt, Sl.mu, Sl.put, argSls, noB, fewB, putB, endP, cellsOf, cellF, List.getElem?_cons_zero, List.getElem?_cons_succ, List.getElem?_nil, List.set_cons_zero, List.set_cons_succ, List.append_eq, List.nil_append, List.cons_append, List.replicate, List.take_succ_cons, List.take_zero, List.take_nil, List.filterMap_cons, List.filterMap_nil, Option.map_some, Option.map_none, List.length_cons, List.length_nil, F_add_i, F_add_s, F_add_l, F_add_t, F_int, F_cmp_i, F_cmp_s, F_in_l, F_in_t, F_in_s, F_ix_l, F_ix_t, F_ix_s, F_sl_l, F_sl_t, F_sl_s, F_len_l, F_len_t, F_len_s, F_toInt, F_toStr, F_toTup_l, F_toTup_t, F_toLst_l, F_toLst_t, F_all, F_any, F_split, F_join_l, F_join_t, F_part, F_start, F_end, F_strip, F_sorted_l, F_sorted_t, N_none, N_str, N_int, N_bool, N_tup, N_lst, S_str, S_none, S_int, S_bool, S_tup, S_lst, I_str, I_none, I_int, I_bool, I_tup, I_lst, B_str, B_none, B_int, B_bool, B_tup, B_lst, T_str, T_none, T_int, T_bool, T_tup, T_lst, L_str, L_none, L_int, L_bool, L_tup, L_lst, D_str, D_none, D_int, D_bool, D_tup, D_lst, N_dic, S_dic, I_dic, B_dic, T_dic, L_dic, D_dic, E_ss, E_ii, E_bb, E_ns, E_is, E_bs, E_nn, isA_str, isA_int, isA_bool, isA_tuple, isA_list, isA_dict, fEq, fNe, fIsN, fNotN, eqv_str, eqv_int, eqv_bool, exists_eq_left', exists_eq_left, exists_and_left, R.d.injEq, R.o.injEq, PyData.bool.injEq, PyData.str.injEq, PyData.int.injEq, PyData.tuple.injEq, PyData.list.injEq, List.cons.injEq, Option.some.injEq, and_true, true_and, and_self, Bool.not_true, Bool.not_false, Bool.false_eq_true, Bool.true_eq_false, Bool.true_and, Bool.false_and, Bool.true_or, Bool.false_or, if_true, if_false, reduceIte, reduceCtorEq, not_false_eq_true, ne_eq, true_or, or_true, false_or, or_false, List.map_nil, List.map_cons, Option.toList_some, Option.toList_none, false_and, and_false, Bool.not_eq_true, Bool.or_false, Bool.or_true, Bool.and_true, Bool.and_false, List.length_map, List.length_append, txs, ← List.map_append] at h ⊢
          refine ⟨v, dr, ⟨rfl, rfl⟩, by omega, ?_⟩
          exact ⟨zl _ (by omega), zl _ (by omega), by decide, h⟩
  | a bf1 dr1 bh1 df1 fb =>
    cases fb with
    | true =>
      simp only [w__law_after, Mng.d, Mng.locked, wSeq, wIfS, wRet, wRetN, wNext, wBreak, wCont, wNever, wSet, wAsg, wPar, wExpr, wFor, wApp, wPop, wSetIx, wVar, wBor, wTake, wC, wBin, wNil, wCons, wPrim, wCall, wTup, wLst, wSl, wNone, wSome, wM0, wM1, wB, wAndT, wOrT, wNotT, wAndV, wOrV, wNotV, wIf, wIsi, wIsi2, wNeg, wChain, wSortedSet, X_txl, X_txt, wIt, wIt.rdf, wRng1, wRng2, wLc, wYes, lcS, wipeG, backG, noMut, rd_d, rd_o, rd_b, rdf_d, rdf_o, fz_d, fz_o, fz_b, sl_d, sl_o, ok_d, ok_o, argSl_d, argSl_o, argSl_b, items_l, items_t, items_s, rds, rdF, stOk_eq, ncO_some, nc_v, nc_own, nc_no, stOks, setAll, wG, mutAt, putAt, Sl.mu, Sl.put, argSls, noB, fewB, putB, endP, cellsOf, cellF, List.getElem?_cons_zero, List.getElem?_cons_succ, List.getElem?_nil, List.set_cons_zero, List.set_cons_succ, List.append_eq, List.nil_append, List.cons_append, List.replicate, List.take_succ_cons, List.take_zero, List.take_nil, List.filterMap_cons, List.filterMap_nil, Option.map_some, Option.map_none, List.length_cons, List.length_nil, F_add_i, F_add_s, F_add_l, F_add_t, F_int, F_cmp_i, F_cmp_s, F_in_l, F_in_t, F_in_s, F_ix_l, F_ix_t, F_ix_s, F_sl_l, F_sl_t, F_sl_s, F_len_l, F_len_t, F_len_s, F_toInt, F_toStr, F_toTup_l, F_toTup_t, F_toLst_l, F_toLst_t, F_all, F_any, F_split, F_join_l, F_join_t, F_part, F_start, F_end, F_strip, F_sorted_l, F_sorted_t, N_none, N_str, N_int, N_bool, N_tup, N_lst, S_str, S_none, S_int, S_bool, S_tup, S_lst, I_str, I_none, I_int, I_bool, I_tup, I_lst, B_str, B_none, B_int, B_bool, B_tup, B_lst, T_str, T_none, T_int, T_bool, T_tup, T_lst, L_str, L_none, L_int, L_bool, L_tup, L_lst, D_str, D_none, D_int, D_bool, D_tup, D_lst, N_dic, S_dic, I_dic, B_dic, T_dic, L_dic, D_dic, E_ss, E_ii, E_bb, E_ns, E_is, E_bs, E_nn, isA_str, isA_int, isA_bool, isA_tuple, isA_list, isA_dict, fEq, fNe, fIsN, fNotN, eqv_str, eqv_int, eqv_bool, exists_eq_left', exists_eq_left, exists_and_left, R.d.injEq, R.o.injEq, PyData.bool.injEq, PyData.str.injEq, PyData.int.injEq, PyData.tuple.injEq, PyData.list.injEq, List.cons.injEq, Option.some.injEq, and_true, true_and, and_self, Bool.not_true, Bool.not_false, Bool.false_eq_true, Bool.true_eq_false, Bool.true_and, Bool.false_and, Bool.true_or, Bool.false_or, if_true, if_false, reduceIte, reduceCtorEq, not_false_eq_true, ne_eq, true_or, or_true, false_or, or_false, List.map_nil, List.map_cons, Option.toList_some, Option.toList_none, false_and, and_false, Bool.not_eq_true, Bool.or_false, Bool.or_true, Bool.and_true, Bool.and_false, i66] at h ⊢
      exact h
    | false =>
      simp only [w__law_after, w__law_after_9, Mng.d, Mng.locked, wSeq, wIfS, wRet, wRetN, wNext, wBreak, wCont, wNever, wSet, wAsg, wPar, wExpr, wFor, wApp, wPop, wSetIx, wVar, wBor, wTake, wC, wBin, wNil, wCons, wPrim, wCall, wTup, wLst, wSl, wNone, wSome, wM0, wM1, wB, wAndT, wOrT, wNotT, wAndV, wOrV, wNotV, wIf, wIsi, wIsi2, wNeg, wChain, wSortedSet, X_txl, X_txt, wIt, wIt.rdf, wRng1, wRng2, wLc, wYes, lcS, wipeG, backG, noMut, rd_d, rd_o, rd_b, rdf_d, rdf_o, fz_d, fz_o, fz_b, sl_d, sl_o, ok_d, ok_o, argSl_d, argSl_o, argSl_b, items_l, items_t, items_s, rds, rdF, stOk_eq, ncO_some, nc_v, nc_own, nc_no, stOks, setAll, wG, mutAt, putAt, Sl.mu, Sl.put, argSls, noB, fewB, putB, endP, cellsOf, cellF, List.getElem?_cons_zero, List.getElem?_cons_succ, List.getElem?_nil, List.set_cons_zero, List.set_cons_succ, List.append_eq, List.nil_append, List.cons_append, List.replicate, List.take_succ_cons, List.take_zero, List.take_nil, List.filterMap_cons, List.filterMap_nil, Option.map_some, Option.map_none, List.length_cons, List.length_nil, F_add_i, F_add_s, F_add_l, F_add_t, F_int, F_cmp_i, F_cmp_s, F_in_l, F_in_t, F_in_s, F_ix_l, F_ix_t, F_ix_s, F_sl_l, F_sl_t, F_sl_s, F_len_l, F_len_t, F_len_s, F_toInt, F_toStr, F_toTup_l, F_toTup_t, F_toLst_l, F_toLst_t, F_all, F_any, F_split, F_join_l, F_join_t, F_part, F_start, F_end, F_strip, F_sorted_l, F_sorted_t, N_none, N_str, N_int, N_bool, N_tup, N_lst, S_str, S_none, S_int, S_bool, S_tup, S_lst, I_str, I_none, I_int, I_bool, I_tup, I_lst, B_str, B_none, B_int, B_bool, B_tup, B_lst, T_str, T_none, T_int, T_bool, T_tup, T_lst, L_str, L_none, L_int, L_bool, L_tup, L_lst, D_str, D_none, D_int, D_bool, D_tup, D_lst, N_dic, S_dic, I_dic, B_dic, T_dic, L_dic, D_dic, E_ss, E_ii, E_bb, E_ns, E_is, E_bs, E_nn, isA_str, isA_int, isA_bool, isA_tuple, isA_list, isA_dict, fEq, fNe, fIsN, fNotN, eqv_str, eqv_int, eqv_bool, exists_eq_left', exists_eq_left, exists_and_left, R.d.injEq, R.o.injEq, PyData.bool.injEq, PyData.str.injEq, PyData.int.injEq, PyData.tuple.injEq, PyData.list.injEq, List.cons.injEq, Option.some.injEq, and_true, true_and, and_self, Bool.not_true, Bool.not_false, Bool.false_eq_true, Bool.true_eq_false, Bool.true_and, Bool.false_and, Bool.true_or, Bool.false_or, if_true, if_false, reduceIte, reduceCtorEq, not_false_eq_true, ne_eq, true_or, or_true, false_or, or_false, List.map_nil, List.map_cons, Option.toList_some, Option.toList_none, false_and, and_false, Bool.not_eq_true, Bool.or_false, Bool.or_true, Bool.and_true, Bool.and_false, i66] at h ⊢
      cases s with
      | c v2 b2 =>
        simp only [Mng.d, i30, wSeq, wIfS, wRet, wRetN, wNext, wBreak, wCont, wNever, wSet, wAsg, wPar, wExpr, wFor, wApp, wPop, wSetIx, wVar, wBor, wTake, wC, wBin, wNil, wCons, wPrim, wCall, wTup, wLst, wSl, wNone, wSome, wM0, wM1, wB, wAndT, wOrT, wNotT, wAndV, wOrV, wNotV, wIf, wIsi, wIsi2, wNeg, wChain, wSortedSet, X_txl, X_txt, wIt, wIt.rdf, wRng1, wRng2, wLc, wYes, lcS, wipeG, backG, noMut, rd_d, rd_o, rd_b, rdf_d, rdf_o, fz_d, fz_o, fz_b, sl_d, sl_o, ok_d, ok_o, argSl_d, argSl_o, argSl_b, items_l, items_t, items_s, rds, rdF, stOk_eq, ncO_some, nc_v, nc_own, nc_no, stOks, setAll, wG, mutAt, putAt, Sl.mu, Sl.put, argSls, noB, fewB, putB, endP, cellsOf, cellF, List.getElem?_cons_zero, List.getElem?_cons_succ, List.getElem?_nil, List.set_cons_zero, List.set_cons_succ, List.append_eq, List.nil_append, List.cons_append, List.replicate, List.take_succ_cons, List.take_zero, List.take_nil, List.filterMap_cons, List.filterMap_nil, Option.map_some, Option.map_none, List.length_cons, List.length_nil, F_add_i, F_add_s, F_add_l, F_add_t, F_int, F_cmp_i, F_cmp_s, F_in_l, F_in_t, F_in_s, F_ix_l, F_ix_t, F_ix_s, F_sl_l, F_sl_t, F_sl_s, F_len_l, F_len_t, F_len_s, F_toInt, F_toStr, F_toTup_l, F_toTup_t, F_toLst_l, F_toLst_t, F_all, F_any, F_split, F_join_l, F_join_t, F_part, F_start, F_end, F_strip, F_sorted_l, F_sorted_t, N_none, N_str, N_int, N_bool, N_tup, N_lst, S_str, S_none, S_int, S_bool, S_tup, S_lst, I_str, I_none, I_int, I_bool, I_tup, I_lst, B_str, B_none, B_int, B_bool, B_tup, B_lst, T_str, T_none, T_int, T_bool, T_tup, T_lst, L_str, L_none, L_int, L_bool, L_tup, L_lst, D_str, D_none, D_int, D_bool, D_tup, D_lst, N_dic, S_dic, I_dic, B_dic, T_dic, L_dic, D_dic, E_ss, E_ii, E_bb, E_ns, E_is, E_bs, E_nn, isA_str, isA_int, isA_bool, isA_tuple, isA_list, isA_dict, fEq, fNe, fIsN, fNotN, eqv_str, eqv_int, eqv_bool, exists_eq_left', exists_eq_left, exists_and_left, R.d.injEq, R.o.injEq, PyData.bool.injEq, PyData.str.injEq, PyData.int.injEq, PyData.tuple.injEq, PyData.list.injEq, List.cons.injEq, Option.some.injEq, and_true, true_and, and_self, Bool.not_true, Bool.not_false, Bool.false_eq_true, Bool.true_eq_false, Bool.true_and, Bool.false_and, Bool.true_or, Bool.false_or, if_true, if_false, reduceIte, reduceCtorEq, not_false_eq_true, ne_eq, true_or, or_true, false_or, or_false, List.map_nil, List.map_cons, Option.toList_some, Option.toList_none, false_and, and_false, Bool.not_eq_true, Bool.or_false, Bool.or_true, Bool.and_true, Bool.and_false, beq_self_eq_true] at h ⊢
        exact h
      | a bf dr bh df b2 =>
        simp only [Mng.items, List.length_append] at hsz hfz
        have k1 := len_kept bf1 dr
        have k2 := len_kept bh1 dr
        simp only [Mng.d, w__law_after_8, w__law_after_7, w__law_after_6, i60, i61, i62, i63, wSeq, wIfS, wRet, wRetN, wNext, wBreak, wCont, wNever, wSet, wAsg, wPar, wExpr, wFor, wApp, wPop, wSetIx, wVar, wBor, wTake, wC, wBin, wNil, wCons, wPrim, wCall, wTup, wLst, wSl, wNone, wSome, wM0, wM1, wB, wAndT, wOrT, wNotT, wAndV, wOrV, wNotV, wIf, wIsi, wIsi2, wNeg, wChain, wSortedSet, X_txl, X_txt, wIt, wIt.rdf, wRng1, wRng2, wLc, wYes, lcS, wipeG, backG, noMut, rd_d, rd_o, rd_b, rdf_d, rdf_o, fz_d, fz_o, fz_b, sl_d, sl_o, ok_d, ok_o, argSl_d, argSl_o, argSl_b, items_l, items_t, items_s, rds, rdF, stOk_eq, ncO_some, nc_v, nc_own, nc_no, stOks, setAll, wG, mutAt, putAt, Sl.mu, Sl.put, argSls, noB, fewB, putB, endP, cellsOf, cellF, List.getElem?_cons_zero, List.getElem?_cons_succ, List.getElem?_nil, List.set_cons_zero, List.set_cons_succ, List.append_eq, List.nil_append, List.cons_append, List.replicate, List.take_succ_cons, List.take_zero, List.take_nil, List.filterMap_cons, List.filterMap_nil, Option.map_some, Option.map_none, List.length_cons, List.length_nil, F_add_i, F_add_s, F_add_l, F_add_t, F_int, F_cmp_i, F_cmp_s, F_in_l, F_in_t, F_in_s, F_ix_l, F_ix_t, F_ix_s, F_sl_l, F_sl_t, F_sl_s, F_len_l, F_len_t, F_len_s, F_toInt, F_toStr, F_toTup_l, F_toTup_t, F_toLst_l, F_toLst_t, F_all, F_any, F_split, F_join_l, F_join_t, F_part, F_start, F_end, F_strip, F_sorted_l, F_sorted_t, N_none, N_str, N_int, N_bool, N_tup, N_lst, S_str, S_none, S_int, S_bool, S_tup, S_lst, I_str, I_none, I_int, I_bool, I_tup, I_lst, B_str, B_none, B_int, B_bool, B_tup, B_lst, T_str, T_none, T_int, T_bool, T_tup, T_lst, L_str, L_none, L_int, L_bool, L_tup, L_lst, D_str, D_none, D_int, D_bool, D_tup, D_lst, N_dic, S_dic, I_dic, B_dic, T_dic, L_dic, D_dic, E_ss, E_ii, E_bb, E_ns, E_is, E_bs, E_nn, isA_str, isA_int, isA_bool, isA_tuple, isA_list, isA_dict, fEq, fNe, fIsN, fNotN, eqv_str, eqv_int, eqv_bool, exists_eq_left', exists_eq_left, exists_and_left, R.d.injEq, R.o.injEq, PyData.bool.injEq, PyData.str.injEq, PyData.int.injEq, PyData.tuple.injEq, PyData.list.injEq, List.cons.injEq, Option.some.injEq, and_true, true_and, and_self, Bool.not_true, Bool.not_false, Bool.false_eq_true, Bool.true_eq_false, Bool.true_and, Bool.false_and, Bool.true_or, Bool.false_or, if_true, if_false, reduceIte, reduceCtorEq, not_false_eq_true, ne_eq, true_or, or_true, false_or, or_false, List.map_nil, List.map_cons, Option.toList_some, Option.toList_none, false_and, and_false, Bool.not_eq_true, Bool.or_false, Bool.or_true, Bool.and_true, Bool.and_false, cst_ne, fs__law_kept] at h ⊢
        refine ⟨bf1, dr, ⟨rfl, rfl⟩, by omega, ?_⟩
        simp only [wSeq, wIfS, wRet, wRetN, wNext, wBreak, wCont, wNever, wSet, wAsg, wPar, wExpr, wFor, wApp, wPop, wSetIx, wVar, wBor, wTake, wC, wBin, wNil, wCons, wPrim, wCall, wTup, wLst, wSl, wNone, wSome, wM0, wM1, wB, wAndT, wOrT, wNotT, wAndV, wOrV, wNotV, wIf, wIsi, wIsi2, wNeg, wChain, wSortedSet, X_txl, X_txt, wIt, wIt.rdf, wRng1, wRng2, wLc, wYes, lcS, wipeG, backG, noMut, rd_d, rd_o, rd_b, rdf_d, rdf_o, fz_d, fz_o, fz_b, sl_d, sl_o, ok_d, ok_o, argSl_d, argSl_o, argSl_b, items_l, items_t, items_s, rds, rdF, stOk_eq, ncO_some, nc_v, nc_own, nc_no, stOks, setAll, wG, mutAt, putAt, Sl.mu, Sl.put, argSls, noB, fewB, putB, endP, cellsOf, cellF, List.getElem?_cons_zero, List.getElem?_cons_succ, List.getElem?_nil, List.set_cons_zero, List.set_cons_succ, List.append_eq, List.nil_append, List.cons_append, List.replicate, List.take_succ_cons, List.take_zero, List.take_nil, List.filterMap_cons, List.filterMap_nil, Option.map_some, Option.map_none, List.length_cons, List.length_nil, F_add_i, F_add_s, F_add_l, F_add_t, F_int, F_cmp_i, F_cmp_s, F_in_l, F_in_t, F_in_s, F_ix_l, F_ix_t, F_ix_s, F_sl_l, F_sl_t, F_sl_s, F_len_l, F_len_t, F_len_s, F_toInt, F_toStr, F_toTup_l, F_toTup_t, F_toLst_l, F_toLst_t, F_all, F_any, F_split, F_join_l, F_join_t, F_part, F_start, F_end, F_strip, F_sorted_l, F_sorted_t, N_none, N_str, N_int, N_bool, N_tup, N_lst, S_str, S_none, S_int, S_bool, S_tup, S_lst, I_str, I_none, I_int, I_bool, I_tup, I_lst, B_str, B_none, B_int, B_bool, B_tup, B_lst, T_str, T_none, T_int, T_bool, T_tup, T_lst, L_str, L_none, L_int, L_bool, L_tup, L_lst, D_str, D_none, D_int, D_bool, D_tup, D_lst, N_dic, S_dic, I_dic, B_dic, T_dic, L_dic, D_dic, E_ss, E_ii, E_bb, E_ns, E_is, E_bs, E_nn, isA_str, isA_int, isA_bool, isA_tuple, isA_list, isA_dict, fEq, fNe, fIsN, fNotN, eqv_str, eqv_int, eqv_bool, exists_eq_left', exists_eq_left, exists_and_left, R.d.injEq, R.o.injEq, PyData.bool.injEq, PyData.str.injEq, PyData.int.injEq, PyData.tuple.injEq, PyData.list.injEq, List.cons.injEq, Option.some.injEq, and_true, true_and, and_self, Bool.not_true, Bool.not_false, Bool.false_eq_true, Bool.true_eq_false, Bool.true_and, Bool.false_and, Bool.true_or, Bool.false_or, if_true, if_false, reduceIte, reduceCtorEq, not_false_eq_true, ne_eq, true_or, or_true, false_or, or_false, List.map_nil, List.map_cons, Option.toList_some, Option.toList_none, false_and, and_false, Bool.not_eq_true, Bool.or_false, Bool.or_true, Bool.and_true, Bool.and_false, List.length_map, List.length_append, txs, ← List.map_append, w__law_after_5, i63, fs__law_kept]
        refine ⟨zl _ (by omega), bh1, dr, ⟨rfl, rfl⟩, by omega, ?_⟩
        simp only [wSeq, wIfS, wRet, wRetN, wNext, wBreak, wCont, wNever, wSet, wAsg, wPar, wExpr, wFor, wApp, wPop, wSetIx, wVar, wBor, wTake, wC, wBin, wNil, wCons, wPrim, wCall, wTup, wLst, wSl, wNone, wSome, wM0, wM1, wB, wAndT, wOrT, wNotT, wAndV, wOrV, wNotV, wIf, wIsi, wIsi2, wNeg, wChain, wSortedSet, X_txl, X_txt, wIt, wIt.rdf, wRng1, wRng2, wLc, wYes, lcS, wipeG, backG, noMut, rd_d, rd_o, rd_b, rdf_d, rdf_o, fz_d, fz_o, fz_b, sl_d, sl_o, ok_d, ok_o, argSl_d, argSl_o, argSl_b, items_l, items_t, items_s, rds, rdF, stOk_eq, ncO_some, nc_v, nc_own, nc_no, stOks, setAll, wG, mutAt, putAt, Sl.mu, Sl.put, argSls, noB, fewB, putB, endP, cellsOf, cellF, List.getElem?_cons_zero, List.getElem?_cons_succ, List.getElem?_nil, List.set_cons_zero, List.set_cons_succ, List.append_eq, List.nil_append, List.cons_append, List.replicate, List.take_succ_cons, List.take_zero, List.take_nil, List.filterMap_cons, List.filterMap_nil, Option.map_some, Option.map_none, List.length_cons, List.length_nil, F_add_i, F_add_s, F_add_l, F_add_t, F_int, F_cmp_i, F_cmp_s, F_in_l, F_in_t, F_in_s, F_ix_l, F_ix_t, F_ix_s, F_sl_l, F_sl_t, F_sl_s, F_len_l, F_len_t, F_len_s, F_toInt, F_toStr, F_toTup_l, F_toTup_t, F_toLst_l, F_toLst_t, F_all, F_any, F_split, F_join_l, F_join_t, F_part, F_start, F_end, F_strip, F_sorted_l, F_sorted_t, N_none, N_str, N_int, N_bool, N_tup, N_lst, S_str, S_none, S_int, S_bool, S_tup, S_lst, I_str, I_none, I_int, I_bool, I_tup, I_lst, B_str, B_none, B_int, B_bool, B_tup, B_lst, T_str, T_none, T_int, T_bool, T_tup, T_lst, L_str, L_none, L_int, L_bool, L_tup, L_lst, D_str, D_none, D_int, D_bool, D_tup, D_lst, N_dic, S_dic, I_dic, B_dic, T_dic, L_dic, D_dic, E_ss, E_ii, E_bb, E_ns, E_is, E_bs, E_nn, isA_str, isA_int, isA_bool, isA_tuple, isA_list, isA_dict, fEq, fNe, fIsN, fNotN, eqv_str, eqv_int, eqv_bool, exists_eq_left', exists_eq_left, exists_and_left, R.d.injEq, R.o.injEq, PyData.bool.injEq, PyData.str.injEq, PyData.int.injEq, PyData.tuple.injEq, PyData.list.injEq, List.cons.injEq, Option.some.injEq, and_true, true_and, and_self, Bool.not_true, Bool.not_false, Bool.false_eq_true, Bool.true_eq_false, Bool.true_and, Bool.false_and, Bool.true_or, Bool.false_or, if_true, if_false, reduceIte, reduceCtorEq, not_false_eq_true, ne_eq, true_or, or_true, false_or, or_false, List.map_nil, List.map_cons, Option.toList_some, Option.toList_none, false_and, and_false, Bool.not_eq_true, Bool.or_false, Bool.or_true, Bool.and_true, Bool.and_false, List.length_map, List.length_append, txs, ← List.map_append, w__law_after_4, i64, fs__law_kept]
        refine ⟨zl _ (by omega), ?_⟩
        cases df1 with
        | none =>
          simp only [optT, wSeq, wIfS, wRet, wRetN, wNext, wBreak, wCont, wNever, wSet, wAsg, wPar, wExpr, wFor, wApp, wPop, wSetIx, wVar, wBor, wTake, wC, wBin, wNil, wCons, wPrim, wCall, wTup, wLst, wSl, wNone, wSome, wM0, wM1, wB, wAndT, wOrT, wNotT, wAndV, wOrV, wNotV, wIf, wIsi, wIsi2, wNeg, wChain, wSortedSet, X_txl, X_txt, wIt, wIt.rdf, wRng1, wRng2, wLc, wYes, lcS, wipeG, backG, noMut, rd_d, rd_o, rd_b, rdf_d, rdf_o, fz_d, fz_o, fz_b, sl_d, sl_o, ok_d, ok_o, argSl_d, argSl_o, argSl_b, items_l, items_t, items_s, rds, rdF, stOk_eq, ncO_some, nc_v, nc_own, nc_no, stOks, setAll, wG, mutAt, putAt, Sl.mu, Sl.put, argSls, noB, fewB, putB, endP, cellsOf, cellF, List.getElem?_cons_zero, List.getElem?_cons_succ, List.getElem?_nil, List.set_cons_zero, List.set_cons_succ, List.append_eq, List.nil_append, List.cons_append, List.replicate, List.take_succ_cons, List.take_zero, List.take_nil, List.filterMap_cons, List.filterMap_nil, Option.map_some, Option.map_none, List.length_cons, List.length_nil, F_add_i, F_add_s, F_add_l, F_add_t, F_int, F_cmp_i, F_cmp_s, F_in_l, F_in_t, F_in_s, F_ix_l, F_ix_t, F_ix_s, F_sl_l, F_sl_t, F_sl_s, F_len_l, F_len_t, F_len_s, F_toInt, F_toStr, F_toTup_l, F_toTup_t, F_toLst_l, F_toLst_t, F_all, F_any, F_split, F_join_l, F_join_t, F_part, F_start, F_end, F_strip, F_sorted_l, F_sorted_t, N_none, N_str, N_int, N_bool, N_tup, N_lst, S_str, S_none, S_int, S_bool, S_tup, S_lst, I_str, I_none, I_int, I_bool, I_tup, I_lst, B_str, B_none, B_int, B_bool, B_tup, B_lst, T_str, T_none, T_int, T_bool, T_tup, T_lst, L_str, L_none, L_int, L_bool, L_tup, L_lst, D_str, D_none, D_int, D_bool, D_tup, D_lst, N_dic, S_dic, I_dic, B_dic, T_dic, L_dic, D_dic, E_ss, E_ii, E_bb, E_ns, E_is, E_bs, E_nn, isA_str, isA_int, isA_bool, isA_tuple, isA_list, isA_dict, fEq, fNe, fIsN, fNotN, eqv_str, eqv_int, eqv_bool, exists_eq_left', exists_eq_left, exists_and_left, R.d.injEq, R.o.injEq, PyData.bool.injEq, PyData.str.injEq, PyData.int.injEq, PyData.tuple.injEq, PyData.list.injEq, List.cons.injEq, Option.some.injEq, and_true, true_and, and_self, Bool.not_true, Bool.not_false, Bool.false_eq_true, Bool.true_eq_false, Bool.true_and, Bool.false_and, Bool.true_or, Bool.false_or, if_true, if_false, reduceIte, reduceCtorEq, not_false_eq_true, ne_eq, true_or, or_true, false_or, or_false, List.map_nil, List.map_cons, Option.toList_some, Option.toList_none, false_and, and_false, Bool.not_eq_true, Bool.or_false, Bool.or_true, Bool.and_true, Bool.and_false, w__law_after_3, i62, i65, List.length_map, List.length_append, txs, ← List.map_append, fs__law_rising] at h ⊢
          refine ⟨zl _ (by omega), dr1 ++ dr, _, rfl, .inl rfl, by simp only [List.length_append]; omega, ?_⟩
          (repeat refine ⟨by decide, ?_⟩)
          exact h
        | some d =>
          simp only [optL] at hfz
          simp only [optT, wSeq, wIfS, wRet, wRetN, wNext, wBreak, wCont, wNever, wSet, wAsg, wPar, wExpr, wFor, wApp, wPop, wSetIx, wVar, wBor, wTake, wC, wBin, wNil, wCons, wPrim, wCall, wTup, wLst, wSl, wNone, wSome, wM0, wM1, wB, wAndT, wOrT, wNotT, wAndV, wOrV, wNotV, wIf, wIsi, wIsi2, wNeg, wChain, wSortedSet, X_txl, X_txt, wIt, wIt.rdf, wRng1, wRng2, wLc, wYes, lcS, wipeG, backG, noMut, rd_d, rd_o, rd_b, rdf_d, rdf_o, fz_d, fz_o, fz_b, sl_d, sl_o, ok_d, ok_o, argSl_d, argSl_o, argSl_b, items_l, items_t, items_s, rds, rdF, stOk_eq, ncO_some, nc_v, nc_own, nc_no, stOks, setAll, wG, mutAt, putAt, Sl.mu, Sl.put, argSls, noB, fewB, putB, endP, cellsOf, cellF, List.getElem?_cons_zero, List.getElem?_cons_succ, List.getElem?_nil, List.set_cons_zero, List.set_cons_succ, List.append_eq, List.nil_append, List.cons_append, List.replicate, List.take_succ_cons, List.take_zero, List.take_nil, List.filterMap_cons, List.filterMap_nil, Option.map_some, Option.map_none, List.length_cons, List.length_nil, F_add_i, F_add_s, F_add_l, F_add_t, F_int, F_cmp_i, F_cmp_s, F_in_l, F_in_t, F_in_s, F_ix_l, F_ix_t, F_ix_s, F_sl_l, F_sl_t, F_sl_s, F_len_l, F_len_t, F_len_s, F_toInt, F_toStr, F_toTup_l, F_toTup_t, F_toLst_l, F_toLst_t, F_all, F_any, F_split, F_join_l, F_join_t, F_part, F_start, F_end, F_strip, F_sorted_l, F_sorted_t, N_none, N_str, N_int, N_bool, N_tup, N_lst, S_str, S_none, S_int, S_bool, S_tup, S_lst, I_str, I_none, I_int, I_bool, I_tup, I_lst, B_str, B_none, B_int, B_bool, B_tup, B_lst, T_str, T_none, T_int, T_bool, T_tup, T_lst, L_str, L_none, L_int, L_bool, L_tup, L_lst, D_str, D_none, D_int, D_bool, D_tup, D_lst, N_dic, S_dic, I_dic, B_dic, T_dic, L_dic, D_dic, E_ss, E_ii, E_bb, E_ns, E_is, E_bs, E_nn, isA_str, isA_int, isA_bool, isA_tuple, isA_list, isA_dict, fEq, fNe, fIsN, fNotN, eqv_str, eqv_int, eqv_bool, exists_eq_left', exists_eq_left, exists_and_left, R.d.injEq, R.o.injEq, PyData.bool.injEq, PyData.str.injEq, PyData.int.injEq, PyData.tuple.injEq, PyData.list.injEq, List.cons.injEq, Option.some.injEq, and_true, true_and, and_self, Bool.not_true, Bool.not_false, Bool.false_eq_true, Bool.true_eq_false, Bool.true_and, Bool.false_and, Bool.true_or, Bool.false_or, if_true, if_false, reduceIte, reduceCtorEq, not_false_eq_true, ne_eq, true_or, or_true, false_or, or_false, List.map_nil, List.map_cons, Option.toList_some, Option.toList_none, false_and, and_false, Bool.not_eq_true, Bool.or_false, Bool.or_true, Bool.and_true, Bool.and_false] at h ⊢
          refine ⟨d, dr, ⟨rfl, rfl⟩, by omega, ?_⟩
          simp only [optT, wSeq, wIfS, wRet, wRetN, wNext, wBreak, wCont, wNever, wSet, wAsg, wPar, wExpr, wFor, wApp, wPop, wSetIx, wVar, wBor, wTake, wC, wBin, wNil, wCons, wPrim, wCall, wTup, wLst, wSl, wNone, wSome, wM0, wM1, wB, wAndT, wOrT, wNotT, wAndV, wOrV, wNotV, wIf, wIsi, wIsi2, wNeg, wChain, wSortedSet, X_txl, X_txt, wIt, wIt.rdf, wRng1, wRng2, wLc, wYes, lcS, wipeG, backG, noMut, rd_d, rd_o, rd_b, rdf_d, rdf_o, fz_d, fz_o, fz_b, sl_d, sl_o, ok_d, ok_o, argSl_d, argSl_o, argSl_b, items_l, items_t, items_s, rds, rdF, stOk_eq, ncO_some, nc_v, nc_own, nc_no, stOks, setAll, wG, mutAt, putAt, Sl.mu, Sl.put, argSls, noB, fewB, putB, endP, cellsOf, cellF, List.getElem?_cons_zero, List.getElem?_cons_succ, List.getElem?_nil, List.set_cons_zero, List.set_cons_succ, List.append_eq, List.nil_append, List.cons_append, List.replicate, List.take_succ_cons, List.take_zero, List.take_nil, List.filterMap_cons, List.filterMap_nil, Option.map_some, Option.map_none, List.length_cons, List.length_nil, F_add_i, F_add_s, F_add_l, F_add_t, F_int, F_cmp_i, F_cmp_s, F_in_l, F_in_t, F_in_s, F_ix_l, F_ix_t, F_ix_s, F_sl_l, F_sl_t, F_sl_s, F_len_l, F_len_t, F_len_s, F_toInt, F_toStr, F_toTup_l, F_toTup_t, F_toLst_l, F_toLst_t, F_all, F_any, F_split, F_join_l, F_join_t, F_part, F_start, F_end, F_strip, F_sorted_l, F_sorted_t, N_none, N_str, N_int, N_bool, N_tup, N_lst, S_str, S_none, S_int, S_bool, S_tup, S_lst, I_str, I_none, I_int, I_bool, I_tup, I_lst, B_str, B_none, B_int, B_bool, B_tup, B_lst, T_str, T_none, T_int, T_bool, T_tup, T_lst, L_str, L_none, L_int, L_bool, L_tup, L_lst, D_str, D_none, D_int, D_bool, D_tup, D_lst, N_dic, S_dic, I_dic, B_dic, T_dic, L_dic, D_dic, E_ss, E_ii, E_bb, E_ns, E_is, E_bs, E_nn, isA_str, isA_int, isA_bool, isA_tuple, isA_list, isA_dict, fEq, fNe, fIsN, fNotN, eqv_str, eqv_int, eqv_bool, exists_eq_left', exists_eq_left, exists_and_left, R.d.injEq, R.o.injEq, PyData.bool.injEq, PyData.str.injEq, PyData.int.injEq, PyData.tuple.injEq, PyData.list.injEq, List.cons.injEq, Option.some.injEq, and_true, true_and, and_self, Bool.not_true, Bool.not_false, Bool.false_eq_true, Bool.true_eq_false, Bool.true_and, Bool.false_and, Bool.true_or, Bool.false_or, if_true, if_false, reduceIte, reduceCtorEq, not_false_eq_true, ne_eq, true_or, or_true, false_or, or_false, List.map_nil, List.map_cons, Option.toList_some, Option.toList_none, false_and, and_false, Bool.not_eq_true, Bool.or_false, Bool.or_true, Bool.and_true, Bool.and_false, w__law_after_3, i62, i65, List.length_map, List.length_append, txs, ← List.map_append, fs__law_rising] at h ⊢
          refine ⟨zl _ (by omega), dr1 ++ dr, _, rfl, .inl rfl, by simp only [List.length_append]; omega, ?_⟩
          (repeat refine ⟨by decide, ?_⟩)
          exact h

def w__law_act_1 : WS := (wRet (wBin fAdd (wBin fAdd (wBin fIx (wBor 0) (wC (PyData.int 1))) (wCall (fs__law_kept) (wCons (wVar 1) (wCons (wBin fIx (wBor 0) (wC (PyData.int 2))) wNil)))) (wBin fIx (wBor 0) (wC (PyData.int 3)))))
def w__law_act_2 : WS := (wSeq (wIfS (wB (wBin fIsN (wBor 1) (wC PyData.none))) (wRet (wIf (wB (wBin fIsN (wBin fIx (wBor 0) (wC (PyData.int 4))) (wC PyData.none))) (wC PyData.none) (wBin fAdd (wBin fAdd (wBin fIx (wBor 0) (wC (PyData.int 1))) (wBin fIx (wBor 0) (wC (PyData.int 4)))) (wBin fIx (wBor 0) (wC (PyData.int 3)))))) wNext) w__law_act_1)
def w__law_act : WS := (wSeq (wIfS (wB (wBin fEq (wBin fIx (wBor 0) (wC (PyData.int 0))) (wC (PyData.str "const")))) (wRet (wBin fIx (wBor 0) (wC (PyData.int 1)))) wNext) w__law_act_2)

def fs__law_act : FS := fun as Q _ => ∃ (m : Mng) (v : Option (List Str)) (a : Nat), as = [.v m.d, .v (optT v)] ∧ m.Ok a ∧ a + (optL v).length ≤ 100000 ∧ Q (.d (optT (m.vb v))) []
theorem l__law_act : ∀ as Q X, fs__law_act as Q X → as.length = 2 := by rintro as Q X ⟨_, _, _, rfl, _⟩; rfl
theorem m__law_act : ∀ as Q X, fs__law_act as Q X → w__law_act (as ++ List.replicate 0 Sl.no) (endP 2 Q X) := by
  rintro as Q X ⟨m, v, a, rfl, hm, hz, h⟩
  have hsz := hm.sz
  have i30 : ∀ x y z : PyData, atI [x, y, z] 0 = some x := fun _ _ _ => rfl
  have i31 : ∀ x y z : PyData, atI [x, y, z] 1 = some y := fun _ _ _ => rfl
  have i60 : ∀ x y z u v w : PyData, atI [x, y, z, u, v, w] 0 = some x := fun _ _ _ _ _ _ => rfl
  have i61 : ∀ x y z u v w : PyData, atI [x, y, z, u, v, w] 1 = some y := fun _ _ _ _ _ _ => rfl
  have i62 : ∀ x y z u v w : PyData, atI [x, y, z, u, v, w] 2 = some z := fun _ _ _ _ _ _ => rfl
  have i63 : ∀ x y z u v w : PyData, atI [x, y, z, u, v, w] 3 = some u := fun _ _ _ _ _ _ => rfl
  have i64 : ∀ x y z u v w : PyData, atI [x, y, z, u, v, w] 4 = some v := fun _ _ _ _ _ _ => rfl
  have zl : ∀ n : Nat, n ≤ 1000000 → n ≤ sizeLine := fun n hn => Nat.le_trans hn (by decide)
  have cne : (Str.ofString "around" == Str.ofString "const") = false := by decide +kernel
  cases m with
  | c x b =>
    simp only [w__law_act, Mng.d, i30, i31, beq_self_eq_true, wSeq, wIfS, wRet, wRetN, wNext, wBreak, wCont, wNever, wSet, wAsg, wPar, wExpr, wFor, wApp, wPop, wSetIx, wVar, wBor, wTake, wC, wBin, wNil, wCons, wPrim, wCall, wTup, wLst, wSl, wNone, wSome, wM0, wM1, wB, wAndT, wOrT, wNotT, wAndV, wOrV, wNotV, wIf, wIsi, wIsi2, wNeg, wChain, wSortedSet, X_txl, X_txt, wIt, wIt.rdf, wRng1, wRng2, wLc, wYes, lcS, wipeG, backG, noMut, rd_d, rd_o, rd_b, rdf_d, rdf_o, fz_d, fz_o, fz_b, sl_d, sl_o, ok_d, ok_o, argSl_d, argSl_o, argSl_b, items_l, items_t, items_s, rds, rdF, stOk_eq, ncO_some, nc_v, nc_own, nc_no, stOks, setAll, wG, mutAt, putAt, Sl.mu, Sl.put, argSls, noB, fewB, putB, endP, cellsOf, cellF, List.getElem?_cons_zero, List.getElem?_cons_succ, List.getElem?_nil, List.set_cons_zero, List.set_cons_succ, List.append_eq, List.nil_append, List.cons_append, List.replicate, List.take_succ_cons, List.take_zero, List.take_nil, List.filterMap_cons, List.filterMap_nil, Option.map_some, Option.map_none, List.length_cons, List.length_nil, F_add_i, F_add_s, F_add_l, F_add_t, F_int, F_cmp_i, F_cmp_s, F_in_l, F_in_t, F_in_s, F_ix_l, F_ix_t, F_ix_s, F_sl_l, F_sl_t, F_sl_s, F_len_l, F_len_t, F_len_s, F_toInt, F_toStr, F_toTup_l, F_toTup_t, F_toLst_l, F_toLst_t, F_all, F_any, F_split, F_join_l, F_join_t, F_part, F_start, F_end, F_strip, F_sorted_l, F_sorted_t, N_none, N_str, N_int, N_bool, N_tup, N_lst, S_str, S_none, S_int, S_bool, S_tup, S_lst, I_str, I_none, I_int, I_bool, I_tup, I_lst, B_str, B_none, B_int, B_bool, B_tup, B_lst, T_str, T_none, T_int, T_bool, T_tup, T_lst, L_str, L_none, L_int, L_bool, L_tup, L_lst, D_str, D_none, D_int, D_bool, D_tup, D_lst, N_dic, S_dic, I_dic, B_dic, T_dic, L_dic, D_dic, E_ss, E_ii, E_bb, E_ns, E_is, E_bs, E_nn, isA_str, isA_int, isA_bool, isA_tuple, isA_list, isA_dict, fEq, fNe, fIsN, fNotN, eqv_str, eqv_int, eqv_bool, exists_eq_left', exists_eq_left, exists_and_left, R.d.injEq, R.o.injEq, PyData.bool.injEq, PyData.str.injEq, PyData.int.injEq, PyData.tuple.injEq, PyData.list.injEq, List.cons.injEq, Option.some.injEq, and_true, true_and, and_self, Bool.not_true, Bool.not_false, Bool.false_eq_true, Bool.true_eq_false, Bool.true_and, Bool.false_and, Bool.true_or, Bool.false_or, if_true, if_false, reduceIte, reduceCtorEq, not_false_eq_true, ne_eq, true_or, or_true, false_or, or_false, List.map_nil, List.map_cons, Option.toList_some, Option.toList_none, false_and, and_false, Bool.not_eq_true, Bool.or_false, Bool.or_true, Bool.and_true, Bool.and_false]
    exact h
  | a bf dr bh df b =>
    simp only [Mng.items, List.length_append] at hsz
    simp only [w__law_act, Mng.d, i60, cne, wSeq, wIfS, wRet, wRetN, wNext, wBreak, wCont, wNever, wSet, wAsg, wPar, wExpr, wFor, wApp, wPop, wSetIx, wVar, wBor, wTake, wC, wBin, wNil, wCons, wPrim, wCall, wTup, wLst, wSl, wNone, wSome, wM0, wM1, wB, wAndT, wOrT, wNotT, wAndV, wOrV, wNotV, wIf, wIsi, wIsi2, wNeg, wChain, wSortedSet, X_txl, X_txt, wIt, wIt.rdf, wRng1, wRng2, wLc, wYes, lcS, wipeG, backG, noMut, rd_d, rd_o, rd_b, rdf_d, rdf_o, fz_d, fz_o, fz_b, sl_d, sl_o, ok_d, ok_o, argSl_d, argSl_o, argSl_b, items_l, items_t, items_s, rds, rdF, stOk_eq, ncO_some, nc_v, nc_own, nc_no, stOks, setAll, wG, mutAt, putAt, Sl.mu, Sl.put, argSls, noB, fewB, putB, endP, cellsOf, cellF, List.getElem?_cons_zero, List.getElem?_cons_succ, List.getElem?_nil, List.set_cons_zero, List.set_cons_succ, List.append_eq, List.nil_append, List.cons_append, List.replicate, List.take_succ_cons, List.take_zero, List.take_nil, List.filterMap_cons, List.filterMap_nil, Option.map_some, Option.map_none, List.length_cons, List.length_nil, F_add_i, F_add_s, F_add_l, F_add_t, F_int, F_cmp_i, F_cmp_s, F_in_l, F_in_t, F_in_s, F_ix_l, F_ix_t, F_ix_s, F_sl_l, F_sl_t, F_sl_s, F_len_l, F_len_t, F_len_s, F_toInt, F_toStr, F_toTup_l, F_toTup_t, F_toLst_l, F_toLst_t, F_all, F_any, F_split, F_join_l, F_join_t, F_part, F_start, F_end, F_strip, F_sorted_l, F_sorted_t, N_none, N_str, N_int, N_bool, N_tup, N_lst, S_str, S_none, S_int, S_bool, S_tup, S_lst, I_str, I_none, I_int, I_bool, I_tup, I_lst, B_str, B_none, B_int, B_bool, B_tup, B_lst, T_str, T_none, T_int, T_bool, T_tup, T_lst, L_str, L_none, L_int, L_bool, L_tup, L_lst, D_str, D_none, D_int, D_bool, D_tup, D_lst, N_dic, S_dic, I_dic, B_dic, T_dic, L_dic, D_dic, E_ss, E_ii, E_bb, E_ns, E_is, E_bs, E_nn, isA_str, isA_int, isA_bool, isA_tuple, isA_list, isA_dict, fEq, fNe, fIsN, fNotN, eqv_str, eqv_int, eqv_bool, exists_eq_left', exists_eq_left, exists_and_left, R.d.injEq, R.o.injEq, PyData.bool.injEq, PyData.str.injEq, PyData.int.injEq, PyData.tuple.injEq, PyData.list.injEq, List.cons.injEq, Option.some.injEq, and_true, true_and, and_self, Bool.not_true, Bool.not_false, Bool.false_eq_true, Bool.true_eq_false, Bool.true_and, Bool.false_and, Bool.true_or, Bool.false_or, if_true, if_false, reduceIte, reduceCtorEq, not_false_eq_true, ne_eq, true_or, or_true, false_or, or_false, List.map_nil, List.map_cons, Option.toList_some, Option.toList_none, false_and, and_false, Bool.not_eq_true, Bool.or_false, Bool.or_true, Bool.and_true, Bool.and_false]
    cases v with
    | some l =>
      have lk := len_kept l dr
      simp only [optL] at hz
      simp only [w__law_act_2, w__law_act_1, optT, fs__law_kept, i61, i62, i63, wSeq, wIfS, wRet, wRetN, wNext, wBreak, wCont, wNever, wSet, wAsg, wPar, wExpr, wFor, wApp, wPop, wSetIx, wVar, wBor, wTake, wC, wBin, wNil, wCons, wPrim, wCall, wTup, wLst, wSl, wNone, wSome, wM0, wM1, wB, wAndT, wOrT, wNotT, wAndV, wOrV, wNotV, wIf, wIsi, wIsi2, wNeg, wChain, wSortedSet, X_txl, X_txt, wIt, wIt.rdf, wRng1, wRng2, wLc, wYes, lcS, wipeG, backG, noMut, rd_d, rd_o, rd_b, rdf_d, rdf_o, fz_d, fz_o, fz_b, sl_d, sl_o, ok_d, ok_o, argSl_d, argSl_o, argSl_b, items_l, items_t, items_s, rds, rdF, stOk_eq, ncO_some, nc_v, nc_own, nc_no, stOks, setAll, wG, mutAt, putAt, Sl.mu, Sl.put, argSls, noB, fewB, putB, endP, cellsOf, cellF, List.getElem?_cons_zero, List.getElem?_cons_succ, List.getElem?_nil, List.set_cons_zero, List.set_cons_succ, List.append_eq, List.nil_append, List.cons_append, List.replicate, List.take_succ_cons, List.take_zero, List.take_nil, List.filterMap_cons, List.filterMap_nil, Option.map_some, Option.map_none, List.length_cons, List.length_nil, F_add_i, F_add_s, F_add_l, F_add_t, F_int, F_cmp_i, F_cmp_s, F_in_l, F_in_t, F_in_s, F_ix_l, F_ix_t, F_ix_s, F_sl_l, F_sl_t, F_sl_s, F_len_l, F_len_t, F_len_s, F_toInt, F_toStr, F_toTup_l, F_toTup_t, F_toLst_l, F_toLst_t, F_all, F_any, F_split, F_join_l, F_join_t, F_part, F_start, F_end, F_strip, F_sorted_l, F_sorted_t, N_none, N_str, N_int, N_bool, N_tup, N_lst, S_str, S_none, S_int, S_bool, S_tup, S_lst, I_str, I_none, I_int, I_bool, I_tup, I_lst, B_str, B_none, B_int, B_bool, B_tup, B_lst, T_str, T_none, T_int, T_bool, T_tup, T_lst, L_str, L_none, L_int, L_bool, L_tup, L_lst, D_str, D_none, D_int, D_bool, D_tup, D_lst, N_dic, S_dic, I_dic, B_dic, T_dic, L_dic, D_dic, E_ss, E_ii, E_bb, E_ns, E_is, E_bs, E_nn, isA_str, isA_int, isA_bool, isA_tuple, isA_list, isA_dict, fEq, fNe, fIsN, fNotN, eqv_str, eqv_int, eqv_bool, exists_eq_left', exists_eq_left, exists_and_left, R.d.injEq, R.o.injEq, PyData.bool.injEq, PyData.str.injEq, PyData.int.injEq, PyData.tuple.injEq, PyData.list.injEq, List.cons.injEq, Option.some.injEq, and_true, true_and, and_self, Bool.not_true, Bool.not_false, Bool.false_eq_true, Bool.true_eq_false, Bool.true_and, Bool.false_and, Bool.true_or, Bool.false_or, if_true, if_false, reduceIte, reduceCtorEq, not_false_eq_true, ne_eq, true_or, or_true, false_or, or_false, List.map_nil, List.map_cons, Option.toList_some, Option.toList_none, false_and, and_false, Bool.not_eq_true, Bool.or_false, Bool.or_true, Bool.and_true, Bool.and_false]
      refine ⟨l, dr, ⟨rfl, rfl⟩, by omega, ?_⟩
      simp only [wSeq, wIfS, wRet, wRetN, wNext, wBreak, wCont, wNever, wSet, wAsg, wPar, wExpr, wFor, wApp, wPop, wSetIx, wVar, wBor, wTake, wC, wBin, wNil, wCons, wPrim, wCall, wTup, wLst, wSl, wNone, wSome, wM0, wM1, wB, wAndT, wOrT, wNotT, wAndV, wOrV, wNotV, wIf, wIsi, wIsi2, wNeg, wChain, wSortedSet, X_txl, X_txt, wIt, wIt.rdf, wRng1, wRng2, wLc, wYes, lcS, wipeG, backG, noMut, rd_d, rd_o, rd_b, rdf_d, rdf_o, fz_d, fz_o, fz_b, sl_d, sl_o, ok_d, ok_o, argSl_d, argSl_o, argSl_b, items_l, items_t, items_s, rds, rdF, stOk_eq, ncO_some, nc_v, nc_own, nc_no, stOks, setAll, wG, mutAt, putAt, Sl.mu, Sl.put, argSls, noB, fewB, putB, endP, cellsOf, cellF, List.getElem?_cons_zero, List.getElem?_cons_succ, List.getElem?_nil, List.set_cons_zero, List.set_cons_succ, List.append_eq, List.nil_append, List.cons_append, List.replicate, List.take_succ_cons, List.take_zero, List.take_nil, List.filterMap_cons, List.filterMap_nil, Option.map_some, Option.map_none, List.length_cons, List.length_nil, F_add_i, F_add_s, F_add_l, F_add_t, F_int, F_cmp_i, F_cmp_s, F_in_l, F_in_t, F_in_s, F_ix_l, F_ix_t, F_ix_s, F_sl_l, F_sl_t, F_sl_s, F_len_l, F_len_t, F_len_s, F_toInt, F_toStr, F_toTup_l, F_toTup_t, F_toLst_l, F_toLst_t, F_all, F_any, F_split, F_join_l, F_join_t, F_part, F_start, F_end, F_strip, F_sorted_l, F_sorted_t, N_none, N_str, N_int, N_bool, N_tup, N_lst, S_str, S_none, S_int, S_bool, S_tup, S_lst, I_str, I_none, I_int, I_bool, I_tup, I_lst, B_str, B_none, B_int, B_bool, B_tup, B_lst, T_str, T_none, T_int, T_bool, T_tup, T_lst, L_str, L_none, L_int, L_bool, L_tup, L_lst, D_str, D_none, D_int, D_bool, D_tup, D_lst, N_dic, S_dic, I_dic, B_dic, T_dic, L_dic, D_dic, E_ss, E_ii, E_bb, E_ns, E_is, E_bs, E_nn, isA_str, isA_int, isA_bool, isA_tuple, isA_list, isA_dict, fEq, fNe, fIsN, fNotN, eqv_str, eqv_int, eqv_bool, exists_eq_left', exists_eq_left, exists_and_left, R.d.injEq, R.o.injEq, PyData.bool.injEq, PyData.str.injEq, PyData.int.injEq, PyData.tuple.injEq, PyData.list.injEq, List.cons.injEq, Option.some.injEq, and_true, true_and, and_self, Bool.not_true, Bool.not_false, Bool.false_eq_true, Bool.true_eq_false, Bool.true_and, Bool.false_and, Bool.true_or, Bool.false_or, if_true, if_false, reduceIte, reduceCtorEq, not_false_eq_true, ne_eq, true_or, or_true, false_or, or_false, List.map_nil, List.map_cons, Option.toList_some, Option.toList_none, false_and, and_false, Bool.not_eq_true, Bool.or_false, Bool.or_true, Bool.and_true, Bool.and_false, List.length_map, List.length_append, txs, ← List.map_append]
      exact ⟨zl _ (by omega), zl _ (by omega), h⟩
    | none =>
      cases df with
      | none =>
        simp only [w__law_act_2, optT, i64, wSeq, wIfS, wRet, wRetN, wNext, wBreak, wCont, wNever, wSet, wAsg, wPar, wExpr, wFor, wApp, wPop, wSetIx, wVar, wBor, wTake, wC, wBin, wNil, wCons, wPrim, wCall, wTup, wLst, wSl, wNone, wSome, wM0, wM1, wB, wAndT, wOrT, wNotT, wAndV, wOrV, wNotV, wIf, wIsi, wIsi2, wNeg, wChain, wSortedSet, X_txl, X_txt, wIt, wIt.rdf, wRng1, wRng2, wLc, wYes, lcS, wipeG, backG, noMut, rd_d, rd_o, rd_b, rdf_d, rdf_o, fz_d, fz_o, fz_b, sl_d, sl_o, ok_d, ok_o, argSl_d, argSl_o, argSl_b, items_l, items_t, items_s, rds, rdF, stOk_eq, ncO_some, nc_v, nc_own, nc_no, stOks, setAll, wG, mutAt, putAt, Sl.mu, Sl.put, argSls, noB, fewB, putB, endP, cellsOf, cellF, List.getElem?_cons_zero, List.getElem?_cons_succ, List.getElem?_nil, List.set_cons_zero, List.set_cons_succ, List.append_eq, List.nil_append, List.cons_append, List.replicate, List.take_succ_cons, List.take_zero, List.take_nil, List.filterMap_cons, List.filterMap_nil, Option.map_some, Option.map_none, List.length_cons, List.length_nil, F_add_i, F_add_s, F_add_l, F_add_t, F_int, F_cmp_i, F_cmp_s, F_in_l, F_in_t, F_in_s, F_ix_l, F_ix_t, F_ix_s, F_sl_l, F_sl_t, F_sl_s, F_len_l, F_len_t, F_len_s, F_toInt, F_toStr, F_toTup_l, F_toTup_t, F_toLst_l, F_toLst_t, F_all, F_any, F_split, F_join_l, F_join_t, F_part, F_start, F_end, F_strip, F_sorted_l, F_sorted_t, N_none, N_str, N_int, N_bool, N_tup, N_lst, S_str, S_none, S_int, S_bool, S_tup, S_lst, I_str, I_none, I_int, I_bool, I_tup, I_lst, B_str, B_none, B_int, B_bool, B_tup, B_lst, T_str, T_none, T_int, T_bool, T_tup, T_lst, L_str, L_none, L_int, L_bool, L_tup, L_lst, D_str, D_none, D_int, D_bool, D_tup, D_lst, N_dic, S_dic, I_dic, B_dic, T_dic, L_dic, D_dic, E_ss, E_ii, E_bb, E_ns, E_is, E_bs, E_nn, isA_str, isA_int, isA_bool, isA_tuple, isA_list, isA_dict, fEq, fNe, fIsN, fNotN, eqv_str, eqv_int, eqv_bool, exists_eq_left', exists_eq_left, exists_and_left, R.d.injEq, R.o.injEq, PyData.bool.injEq, PyData.str.injEq, PyData.int.injEq, PyData.tuple.injEq, PyData.list.injEq, List.cons.injEq, Option.some.injEq, and_true, true_and, and_self, Bool.not_true, Bool.not_false, Bool.false_eq_true, Bool.true_eq_false, Bool.true_and, Bool.false_and, Bool.true_or, Bool.false_or, if_true, if_false, reduceIte, reduceCtorEq, not_false_eq_true, ne_eq, true_or, or_true, false_or, or_false, List.map_nil, List.map_cons, Option.toList_some, Option.toList_none, false_and, and_false, Bool.not_eq_true, Bool.or_false, Bool.or_true, Bool.and_true, Bool.and_false]
        exact h
      | some d =>
        simp only [optL] at hsz
        simp only [w__law_act_2, optT, i61, i63, i64, wSeq, wIfS, wRet, wRetN, wNext, wBreak, wCont, wNever, wSet, wAsg, wPar, wExpr, wFor, wApp, wPop, wSetIx, wVar, wBor, wTake, wC, wBin, wNil, wCons, wPrim, wCall, wTup, wLst, wSl, wNone, wSome, wM0, wM1, wB, wAndT, wOrT, wNotT, wAndV, wOrV, wNotV, wIf, wIsi, wIsi2, wNeg, wChain, wSortedSet, X_txl, X_txt, wIt, wIt.rdf, wRng1, wRng2, wLc, wYes, lcS, wipeG, backG, noMut, rd_d, rd_o, rd_b, rdf_d, rdf_o, fz_d, fz_o, fz_b, sl_d, sl_o, ok_d, ok_o, argSl_d, argSl_o, argSl_b, items_l, items_t, items_s, rds, rdF, stOk_eq, ncO_some, nc_v, nc_own, nc_no, stOks, setAll, wG, mutAt, putAt, Sl.mu, Sl.put, argSls, noB, fewB, putB, endP, cellsOf, cellF, List.getElem?_cons_zero, List.getElem?_cons_succ, List.getElem?_nil, List.set_cons_zero, List.set_cons_succ, List.append_eq, List.nil_append, List.cons_append, List.replicate, List.take_succ_cons, List.take_zero, List.take_nil, List.filterMap_cons, List.filterMap_nil, Option.map_some, Option.map_none, List.length_cons, List.length_nil, F_add_i, F_add_s, F_add_l, F_add_t, F_int, F_cmp_i, F_cmp_s, F_in_l, F_in_t, F_in_s, F_ix_l, F_ix_t, F_ix_s, F_sl_l, F_sl_t, F_sl_s, F_len_l, F_len_t, F_len_s, F_toInt, F_toStr, F_toTup_l, F_toTup_t, F_toLst_l, F_toLst_t, F_all, F_any, F_split, F_join_l, F_join_t, F_part, F_start, F_end, F_strip, F_sorted_l, F_sorted_t, N_none, N_str, N_int, N_bool, N_tup, N_lst, S_str, S_none, S_int, S_bool, S_tup, S_lst, I_str, I_none, I_int, I_bool, I_tup, I_lst, B_str, B_none, B_int, B_bool, B_tup, B_lst, T_str, T_none, T_int, T_bool, T_tup, T_lst, L_str, L_none, L_int, L_bool, L_tup, L_lst, D_str, D_none, D_int, D_bool, D_tup, D_lst, N_dic, S_dic, I_dic, B_dic, T_dic, L_dic, D_dic, E_ss, E_ii, E_bb, E_ns, E_is, E_bs, E_nn, isA_str, isA_int, isA_bool, isA_tuple, isA_list, isA_dict, fEq, fNe, fIsN, fNotN, eqv_str, eqv_int, eqv_bool, exists_eq_left', exists_eq_left, exists_and_left, R.d.injEq, R.o.injEq, PyData.bool.injEq, PyData.str.injEq, PyData.int.injEq, PyData.tuple.injEq, PyData.list.injEq, List.cons.injEq, Option.some.injEq, and_true, true_and, and_self, Bool.not_true, Bool.not_false, Bool.false_eq_true, Bool.true_eq_false, Bool.true_and, Bool.false_and, Bool.true_or, Bool.false_or, if_true, if_false, reduceIte, reduceCtorEq, not_false_eq_true, ne_eq, true_or, or_true, false_or, or_false, List.map_nil, List.map_cons, Option.toList_some, Option.toList_none, false_and, and_false, Bool.not_eq_true, Bool.or_false, Bool.or_true, Bool.and_true, Bool.and_false, List.length_map, List.length_append, txs, ← List.map_append]
        exact ⟨zl _ (by omega), zl _ (by omega), h⟩

def w__law_stuff_1 : WS := (wRet (wBin fAdd (wBin fAdd (wBin fAdd (wBin fIx (wBor 0) (wC (PyData.int 1))) (wBin fIx (wBor 0) (wC (PyData.int 2)))) (wBin fIx (wBor 0) (wC (PyData.int 3)))) (wIf (wB (wBin fIsN (wBin fIx (wBor 0) (wC (PyData.int 4))) (wC PyData.none))) (wTup wNil) (wBin fIx (wBor 0) (wC (PyData.int 4))))))
def w__law_stuff : WS := (wSeq (wIfS (wB (wBin fEq (wBin fIx (wBor 0) (wC (PyData.int 0))) (wC (PyData.str "const")))) (wRet (wIf (wB (wBin fIsN (wBin fIx (wBor 0) (wC (PyData.int 1))) (wC PyData.none))) (wTup wNil) (wBin fIx (wBor 0) (wC (PyData.int 1))))) wNext) w__law_stuff_1)

def fs__law_stuff : FS := fun as Q _ => ∃ (m : Mng) (a : Nat), as = [.v m.d] ∧ m.Ok a ∧ a ≤ 100000 ∧ Q (.d (.tuple (txs m.items))) []
theorem l__law_stuff : ∀ as Q X, fs__law_stuff as Q X → as.length = 1 := by rintro as Q X ⟨_, _, rfl, _⟩; rfl
theorem m__law_stuff : ∀ as Q X, fs__law_stuff as Q X → w__law_stuff (as ++ List.replicate 0 Sl.no) (endP 1 Q X) := by
  rintro as Q X ⟨m, a, rfl, hm, hz, h⟩
  have hsz := hm.sz
  have i30 : ∀ x y z : PyData, atI [x, y, z] 0 = some x := fun _ _ _ => rfl
  have i31 : ∀ x y z : PyData, atI [x, y, z] 1 = some y := fun _ _ _ => rfl
  have i60 : ∀ x y z u v w : PyData, atI [x, y, z, u, v, w] 0 = some x := fun _ _ _ _ _ _ => rfl
  have i61 : ∀ x y z u v w : PyData, atI [x, y, z, u, v, w] 1 = some y := fun _ _ _ _ _ _ => rfl
  have i62 : ∀ x y z u v w : PyData, atI [x, y, z, u, v, w] 2 = some z := fun _ _ _ _ _ _ => rfl
  have i63 : ∀ x y z u v w : PyData, atI [x, y, z, u, v, w] 3 = some u := fun _ _ _ _ _ _ => rfl
  have i64 : ∀ x y z u v w : PyData, atI [x, y, z, u, v, w] 4 = some v := fun _ _ _ _ _ _ => rfl
  have zl : ∀ n : Nat, n ≤ 1000000 → n ≤ sizeLine := fun n hn => Nat.le_trans hn (by decide)
  have cne : (Str.ofString "around" == Str.ofString "const") = false := by decide +kernel
  cases m with
  | c x b =>
    simp only [w__law_stuff, Mng.d, i30, i31, beq_self_eq_true, wSeq, wIfS, wRet, wRetN, wNext, wBreak, wCont, wNever, wSet, wAsg, wPar, wExpr, wFor, wApp, wPop, wSetIx, wVar, wBor, wTake, wC, wBin, wNil, wCons, wPrim, wCall, wTup, wLst, wSl, wNone, wSome, wM0, wM1, wB, wAndT, wOrT, wNotT, wAndV, wOrV, wNotV, wIf, wIsi, wIsi2, wNeg, wChain, wSortedSet, X_txl, X_txt, wIt, wIt.rdf, wRng1, wRng2, wLc, wYes, lcS, wipeG, backG, noMut, rd_d, rd_o, rd_b, rdf_d, rdf_o, fz_d, fz_o, fz_b, sl_d, sl_o, ok_d, ok_o, argSl_d, argSl_o, argSl_b, items_l, items_t, items_s, rds, rdF, stOk_eq, ncO_some, nc_v, nc_own, nc_no, stOks, setAll, wG, mutAt, putAt, Sl.mu, Sl.put, argSls, noB, fewB, putB, endP, cellsOf, cellF, List.getElem?_cons_zero, List.getElem?_cons_succ, List.getElem?_nil, List.set_cons_zero, List.set_cons_succ, List.append_eq, List.nil_append, List.cons_append, List.replicate, List.take_succ_cons, List.take_zero, List.take_nil, List.filterMap_cons, List.filterMap_nil, Option.map_some, Option.map_none, List.length_cons, List.length_nil, F_add_i, F_add_s, F_add_l, F_add_t, F_int, F_cmp_i, F_cmp_s, F_in_l, F_in_t, F_in_s, F_ix_l, F_ix_t, F_ix_s, F_sl_l, F_sl_t, F_sl_s, F_len_l, F_len_t, F_len_s, F_toInt, F_toStr, F_toTup_l, F_toTup_t, F_toLst_l, F_toLst_t, F_all, F_any, F_split, F_join_l, F_join_t, F_part, F_start, F_end, F_strip, F_sorted_l, F_sorted_t, N_none, N_str, N_int, N_bool, N_tup, N_lst, S_str, S_none, S_int, S_bool, S_tup, S_lst, I_str, I_none, I_int, I_bool, I_tup, I_lst, B_str, B_none, B_int, B_bool, B_tup, B_lst, T_str, T_none, T_int, T_bool, T_tup, T_lst, L_str, L_none, L_int, L_bool, L_tup, L_lst, D_str, D_none, D_int, D_bool, D_tup, D_lst, N_dic, S_dic, I_dic, B_dic, T_dic, L_dic, D_dic, E_ss, E_ii, E_bb, E_ns, E_is, E_bs, E_nn, isA_str, isA_int, isA_bool, isA_tuple, isA_list, isA_dict, fEq, fNe, fIsN, fNotN, eqv_str, eqv_int, eqv_bool, exists_eq_left', exists_eq_left, exists_and_left, R.d.injEq, R.o.injEq, PyData.bool.injEq, PyData.str.injEq, PyData.int.injEq, PyData.tuple.injEq, PyData.list.injEq, List.cons.injEq, Option.some.injEq, and_true, true_and, and_self, Bool.not_true, Bool.not_false, Bool.false_eq_true, Bool.true_eq_false, Bool.true_and, Bool.false_and, Bool.true_or, Bool.false_or, if_true, if_false, reduceIte, reduceCtorEq, not_false_eq_true, ne_eq, true_or, or_true, false_or, or_false, List.map_nil, List.map_cons, Option.toList_some, Option.toList_none, false_and, and_false, Bool.not_eq_true, Bool.or_false, Bool.or_true, Bool.and_true, Bool.and_false]
    cases x with
    | none =>
      simp only [optT, wSeq, wIfS, wRet, wRetN, wNext, wBreak, wCont, wNever, wSet, wAsg, wPar, wExpr, wFor, wApp, wPop, wSetIx, wVar, wBor, wTake, wC, wBin, wNil, wCons, wPrim, wCall, wTup, wLst, wSl, wNone, wSome, wM0, wM1, wB, wAndT, wOrT, wNotT, wAndV, wOrV, wNotV, wIf, wIsi, wIsi2, wNeg, wChain, wSortedSet, X_txl, X_txt, wIt, wIt.rdf, wRng1, wRng2, wLc, wYes, lcS, wipeG, backG, noMut, rd_d, rd_o, rd_b, rdf_d, rdf_o, fz_d, fz_o, fz_b, sl_d, sl_o, ok_d, ok_o, argSl_d, argSl_o, argSl_b, items_l, items_t, items_s, rds, rdF, stOk_eq, ncO_some, nc_v, nc_own, nc_no, stOks, setAll, wG, mutAt, putAt, Sl.mu, Sl.put, argSls, noB, fewB, putB, endP, cellsOf, cellF, List.getElem?_cons_zero, List.getElem?_cons_succ, List.getElem?_nil, List.set_cons_zero, List.set_cons_succ, List.append_eq, List.nil_append, List.cons_append, List.replicate, List.take_succ_cons, List.take_zero, List.take_nil, List.filterMap_cons, List.filterMap_nil, Option.map_some, Option.map_none, List.length_cons, List.length_nil, F_add_i, F_add_s, F_add_l, F_add_t, F_int, F_cmp_i, F_cmp_s, F_in_l, F_in_t, F_in_s, F_ix_l, F_ix_t, F_ix_s, F_sl_l, F_sl_t, F_sl_s, F_len_l, F_len_t, F_len_s, F_toInt, F_toStr, F_toTup_l, F_toTup_t, F_toLst_l, F_toLst_t, F_all, F_any, F_split, F_join_l, F_join_t, F_part, F_start, F_end, F_strip, F_sorted_l, F_sorted_t, N_none, N_str, N_int, N_bool, N_tup, N_lst, S_str, S_none, S_int, S_bool, S_tup, S_lst, I_str, I_none, I_int, I_bool, I_tup, I_lst, B_str, B_none, B_int, B_bool, B_tup, B_lst, T_str, T_none, T_int, T_bool, T_tup, T_lst, L_str, L_none, L_int, L_bool, L_tup, L_lst, D_str, D_none, D_int, D_bool, D_tup, D_lst, N_dic, S_dic, I_dic, B_dic, T_dic, L_dic, D_dic, E_ss, E_ii, E_bb, E_ns, E_is, E_bs, E_nn, isA_str, isA_int, isA_bool, isA_tuple, isA_list, isA_dict, fEq, fNe, fIsN, fNotN, eqv_str, eqv_int, eqv_bool, exists_eq_left', exists_eq_left, exists_and_left, R.d.injEq, R.o.injEq, PyData.bool.injEq, PyData.str.injEq, PyData.int.injEq, PyData.tuple.injEq, PyData.list.injEq, List.cons.injEq, Option.some.injEq, and_true, true_and, and_self, Bool.not_true, Bool.not_false, Bool.false_eq_true, Bool.true_eq_false, Bool.true_and, Bool.false_and, Bool.true_or, Bool.false_or, if_true, if_false, reduceIte, reduceCtorEq, not_false_eq_true, ne_eq, true_or, or_true, false_or, or_false, List.map_nil, List.map_cons, Option.toList_some, Option.toList_none, false_and, and_false, Bool.not_eq_true, Bool.or_false, Bool.or_true, Bool.and_true, Bool.and_false]
      exact ⟨by decide, h⟩
    | some l =>
      simp only [optT, wSeq, wIfS, wRet, wRetN, wNext, wBreak, wCont, wNever, wSet, wAsg, wPar, wExpr, wFor, wApp, wPop, wSetIx, wVar, wBor, wTake, wC, wBin, wNil, wCons, wPrim, wCall, wTup, wLst, wSl, wNone, wSome, wM0, wM1, wB, wAndT, wOrT, wNotT, wAndV, wOrV, wNotV, wIf, wIsi, wIsi2, wNeg, wChain, wSortedSet, X_txl, X_txt, wIt, wIt.rdf, wRng1, wRng2, wLc, wYes, lcS, wipeG, backG, noMut, rd_d, rd_o, rd_b, rdf_d, rdf_o, fz_d, fz_o, fz_b, sl_d, sl_o, ok_d, ok_o, argSl_d, argSl_o, argSl_b, items_l, items_t, items_s, rds, rdF, stOk_eq, ncO_some, nc_v, nc_own, nc_no, stOks, setAll, wG, mutAt, putAt, Sl.mu, Sl.put, argSls, noB, fewB, putB, endP, cellsOf, cellF, List.getElem?_cons_zero, List.getElem?_cons_succ, List.getElem?_nil, List.set_cons_zero, List.set_cons_succ, List.append_eq, List.nil_append, List.cons_append, List.replicate, List.take_succ_cons, List.take_zero, List.take_nil, List.filterMap_cons, List.filterMap_nil, Option.map_some, Option.map_none, List.length_cons, List.length_nil, F_add_i, F_add_s, F_add_l, F_add_t, F_int, F_cmp_i, F_cmp_s, F_in_l, F_in_t, F_in_s, F_ix_l, F_ix_t, F_ix_s, F_sl_l, F_sl_t, F_sl_s, F_len_l, F_len_t, F_len_s, F_toInt, F_toStr, F_toTup_l, F_toTup_t, F_toLst_l, F_toLst_t, F_all, F_any, F_split, F_join_l, F_join_t, F_part, F_start, F_end, F_strip, F_sorted_l, F_sorted_t, N_none, N_str, N_int, N_bool, N_tup, N_lst, S_str, S_none, S_int, S_bool, S_tup, S_lst, I_str, I_none, I_int, I_bool, I_tup, I_lst, B_str, B_none, B_int, B_bool, B_tup, B_lst, T_str, T_none, T_int, T_bool, T_tup, T_lst, L_str, L_none, L_int, L_bool, L_tup, L_lst, D_str, D_none, D_int, D_bool, D_tup, D_lst, N_dic, S_dic, I_dic, B_dic, T_dic, L_dic, D_dic, E_ss, E_ii, E_bb, E_ns, E_is, E_bs, E_nn, isA_str, isA_int, isA_bool, isA_tuple, isA_list, isA_dict, fEq, fNe, fIsN, fNotN, eqv_str, eqv_int, eqv_bool, exists_eq_left', exists_eq_left, exists_and_left, R.d.injEq, R.o.injEq, PyData.bool.injEq, PyData.str.injEq, PyData.int.injEq, PyData.tuple.injEq, PyData.list.injEq, List.cons.injEq, Option.some.injEq, and_true, true_and, and_self, Bool.not_true, Bool.not_false, Bool.false_eq_true, Bool.true_eq_false, Bool.true_and, Bool.false_and, Bool.true_or, Bool.false_or, if_true, if_false, reduceIte, reduceCtorEq, not_false_eq_true, ne_eq, true_or, or_true, false_or, or_false, List.map_nil, List.map_cons, Option.toList_some, Option.toList_none, false_and, and_false, Bool.not_eq_true, Bool.or_false, Bool.or_true, Bool.and_true, Bool.and_false]
      exact h
  | a bf dr bh df b =>
    simp only [Mng.items, List.length_append] at hsz h
    simp only [w__law_stuff, w__law_stuff_1, Mng.d, i60, i61, i62, i63, i64, cne, wSeq, wIfS, wRet, wRetN, wNext, wBreak, wCont, wNever, wSet, wAsg, wPar, wExpr, wFor, wApp, wPop, wSetIx, wVar, wBor, wTake, wC, wBin, wNil, wCons, wPrim, wCall, wTup, wLst, wSl, wNone, wSome, wM0, wM1, wB, wAndT, wOrT, wNotT, wAndV, wOrV, wNotV, wIf, wIsi, wIsi2, wNeg, wChain, wSortedSet, X_txl, X_txt, wIt, wIt.rdf, wRng1, wRng2, wLc, wYes, lcS, wipeG, backG, noMut, rd_d, rd_o, rd_b, rdf_d, rdf_o, fz_d, fz_o, fz_b, sl_d, sl_o, ok_d, ok_o, argSl_d, argSl_o, argSl_b, items_l, items_t, items_s, rds, rdF, stOk_eq, ncO_some, nc_v, nc_own, nc_no, stOks, setAll, wG, mutAt, putAt, Sl.mu, Sl.put, argSls, noB, fewB, putB, endP, cellsOf, cellF, List.getElem?_cons_zero, List.getElem?_cons_succ, List.getElem?_nil, List.set_cons_zero, List.set_cons_succ, List.append_eq, List.nil_append, List.cons_append, List.replicate, List.take_succ_cons, List.take_zero, List.take_nil, List.filterMap_cons, List.filterMap_nil, Option.map_some, Option.map_none, List.length_cons, List.length_nil, F_add_i, F_add_s, F_add_l, F_add_t, F_int, F_cmp_i, F_cmp_s, F_in_l, F_in_t, F_in_s, F_ix_l, F_ix_t, F_ix_s, F_sl_l, F_sl_t, F_sl_s, F_len_l, F_len_t, F_len_s, F_toInt, F_toStr, F_toTup_l, F_toTup_t, F_toLst_l, F_toLst_t, F_all, F_any, F_split, F_join_l, F_join_t, F_part, F_start, F_end, F_strip, F_sorted_l, F_sorted_t, N_none, N_str, N_int, N_bool, N_tup, N_lst, S_str, S_none, S_int, S_bool, S_tup, S_lst, I_str, I_none, I_int, I_bool, I_tup, I_lst, B_str, B_none, B_int, B_bool, B_tup, B_lst, T_str, T_none, T_int, T_bool, T_tup, T_lst, L_str, L_none, L_int, L_bool, L_tup, L_lst, D_str, D_none, D_int, D_bool, D_tup, D_lst, N_dic, S_dic, I_dic, B_dic, T_dic, L_dic, D_dic, E_ss, E_ii, E_bb, E_ns, E_is, E_bs, E_nn, isA_str, isA_int, isA_bool, isA_tuple, isA_list, isA_dict, fEq, fNe, fIsN, fNotN, eqv_str, eqv_int, eqv_bool, exists_eq_left', exists_eq_left, exists_and_left, R.d.injEq, R.o.injEq, PyData.bool.injEq, PyData.str.injEq, PyData.int.injEq, PyData.tuple.injEq, PyData.list.injEq, List.cons.injEq, Option.some.injEq, and_true, true_and, and_self, Bool.not_true, Bool.not_false, Bool.false_eq_true, Bool.true_eq_false, Bool.true_and, Bool.false_and, Bool.true_or, Bool.false_or, if_true, if_false, reduceIte, reduceCtorEq, not_false_eq_true, ne_eq, true_or, or_true, false_or, or_false, List.map_nil, List.map_cons, Option.toList_some, Option.toList_none, false_and, and_false, Bool.not_eq_true, Bool.or_false, Bool.or_true, Bool.and_true, Bool.and_false]
    cases df with
    | none =>
      simp only [optL, List.append_nil] at h hsz
      simp only [optT, wSeq, wIfS, wRet, wRetN, wNext, wBreak, wCont, wNever, wSet, wAsg, wPar, wExpr, wFor, wApp, wPop, wSetIx, wVar, wBor, wTake, wC, wBin, wNil, wCons, wPrim, wCall, wTup, wLst, wSl, wNone, wSome, wM0, wM1, wB, wAndT, wOrT, wNotT, wAndV, wOrV, wNotV, wIf, wIsi, wIsi2, wNeg, wChain, wSortedSet, X_txl, X_txt, wIt, wIt.rdf, wRng1, wRng2, wLc, wYes, lcS, wipeG, backG, noMut, rd_d, rd_o, rd_b, rdf_d, rdf_o, fz_d, fz_o, fz_b, sl_d, sl_o, ok_d, ok_o, argSl_d, argSl_o, argSl_b, items_l, items_t, items_s, rds, rdF, stOk_eq, ncO_some, nc_v, nc_own, nc_no, stOks, setAll, wG, mutAt, putAt, Sl.mu, Sl.put, argSls, noB, fewB, putB, endP, cellsOf, cellF, List.getElem?_cons_zero, List.getElem?_cons_succ, List.getElem?_nil, List.set_cons_zero, List.set_cons_succ, List.append_eq, List.nil_append, List.cons_append, List.replicate, List.take_succ_cons, List.take_zero, List.take_nil, List.filterMap_cons, List.filterMap_nil, Option.map_some, Option.map_none, List.length_cons, List.length_nil, F_add_i, F_add_s, F_add_l, F_add_t, F_int, F_cmp_i, F_cmp_s, F_in_l, F_in_t, F_in_s, F_ix_l, F_ix_t, F_ix_s, F_sl_l, F_sl_t, F_sl_s, F_len_l, F_len_t, F_len_s, F_toInt, F_toStr, F_toTup_l, F_toTup_t, F_toLst_l, F_toLst_t, F_all, F_any, F_split, F_join_l, F_join_t, F_part, F_start, F_end, F_strip, F_sorted_l, F_sorted_t, N_none, N_str, N_int, N_bool, N_tup, N_lst, S_str, S_none, S_int, S_bool, S_tup, S_lst, I_str, I_none, I_int, I_bool, I_tup, I_lst, B_str, B_none, B_int, B_bool, B_tup, B_lst, T_str, T_none, T_int, T_bool, T_tup, T_lst, L_str, L_none, L_int, L_bool, L_tup, L_lst, D_str, D_none, D_int, D_bool, D_tup, D_lst, N_dic, S_dic, I_dic, B_dic, T_dic, L_dic, D_dic, E_ss, E_ii, E_bb, E_ns, E_is, E_bs, E_nn, isA_str, isA_int, isA_bool, isA_tuple, isA_list, isA_dict, fEq, fNe, fIsN, fNotN, eqv_str, eqv_int, eqv_bool, exists_eq_left', exists_eq_left, exists_and_left, R.d.injEq, R.o.injEq, PyData.bool.injEq, PyData.str.injEq, PyData.int.injEq, PyData.tuple.injEq, PyData.list.injEq, List.cons.injEq, Option.some.injEq, and_true, true_and, and_self, Bool.not_true, Bool.not_false, Bool.false_eq_true, Bool.true_eq_false, Bool.true_and, Bool.false_and, Bool.true_or, Bool.false_or, if_true, if_false, reduceIte, reduceCtorEq, not_false_eq_true, ne_eq, true_or, or_true, false_or, or_false, List.map_nil, List.map_cons, Option.toList_some, Option.toList_none, false_and, and_false, Bool.not_eq_true, Bool.or_false, Bool.or_true, Bool.and_true, Bool.and_false, List.length_map, List.length_append, txs, ← List.map_append, List.append_nil, Nat.add_zero, List.append_assoc]
      exact ⟨zl _ (by omega), zl _ (by omega), by decide, zl _ (by omega), h⟩
    | some d =>
      simp only [optL] at h hsz
      simp only [optT, wSeq, wIfS, wRet, wRetN, wNext, wBreak, wCont, wNever, wSet, wAsg, wPar, wExpr, wFor, wApp, wPop, wSetIx, wVar, wBor, wTake, wC, wBin, wNil, wCons, wPrim, wCall, wTup, wLst, wSl, wNone, wSome, wM0, wM1, wB, wAndT, wOrT, wNotT, wAndV, wOrV, wNotV, wIf, wIsi, wIsi2, wNeg, wChain, wSortedSet, X_txl, X_txt, wIt, wIt.rdf, wRng1, wRng2, wLc, wYes, lcS, wipeG, backG, noMut, rd_d, rd_o, rd_b, rdf_d, rdf_o, fz_d, fz_o, fz_b, sl_d, sl_o, ok_d, ok_o, argSl_d, argSl_o, argSl_b, items_l, items_t, items_s, rds, rdF, stOk_eq, ncO_some, nc_v, nc_own, nc_no, stOks, setAll, wG, mutAt, putAt, Sl.mu, Sl.put, argSls, noB, fewB, putB, endP, cellsOf, cellF, List.getElem?_cons_zero, List.getElem?_cons_succ, List.getElem?_nil, List.set_cons_zero, List.set_cons_succ, List.append_eq, List.nil_append, List.cons_append, List.replicate, List.take_succ_cons, List.take_zero, List.take_nil, List.filterMap_cons, List.filterMap_nil, Option.map_some, Option.map_none, List.length_cons, List.length_nil, F_add_i, F_add_s, F_add_l, F_add_t, F_int, F_cmp_i, F_cmp_s, F_in_l, F_in_t, F_in_s, F_ix_l, F_ix_t, F_ix_s, F_sl_l, F_sl_t, F_sl_s, F_len_l, F_len_t, F_len_s, F_toInt, F_toStr, F_toTup_l, F_toTup_t, F_toLst_l, F_toLst_t, F_all, F_any, F_split, F_join_l, F_join_t, F_part, F_start, F_end, F_strip, F_sorted_l, F_sorted_t, N_none, N_str, N_int, N_bool, N_tup, N_lst, S_str, S_none, S_int, S_bool, S_tup, S_lst, I_str, I_none, I_int, I_bool, I_tup, I_lst, B_str, B_none, B_int, B_bool, B_tup, B_lst, T_str, T_none, T_int, T_bool, T_tup, T_lst, L_str, L_none, L_int, L_bool, L_tup, L_lst, D_str, D_none, D_int, D_bool, D_tup, D_lst, N_dic, S_dic, I_dic, B_dic, T_dic, L_dic, D_dic, E_ss, E_ii, E_bb, E_ns, E_is, E_bs, E_nn, isA_str, isA_int, isA_bool, isA_tuple, isA_list, isA_dict, fEq, fNe, fIsN, fNotN, eqv_str, eqv_int, eqv_bool, exists_eq_left', exists_eq_left, exists_and_left, R.d.injEq, R.o.injEq, PyData.bool.injEq, PyData.str.injEq, PyData.int.injEq, PyData.tuple.injEq, PyData.list.injEq, List.cons.injEq, Option.some.injEq, and_true, true_and, and_self, Bool.not_true, Bool.not_false, Bool.false_eq_true, Bool.true_eq_false, Bool.true_and, Bool.false_and, Bool.true_or, Bool.false_or, if_true, if_false, reduceIte, reduceCtorEq, not_false_eq_true, ne_eq, true_or, or_true, false_or, or_false, List.map_nil, List.map_cons, Option.toList_some, Option.toList_none, false_and, and_false, Bool.not_eq_true, Bool.or_false, Bool.or_true, Bool.and_true, Bool.and_false, List.length_map, List.length_append, txs, ← List.map_append, List.append_assoc]
      exact ⟨zl _ (by omega), zl _ (by omega), zl _ (by omega), h⟩

def w__law_trials_of_1 : WS := (wRet (wBin fAdd (wBin fAdd (wLst (wCons (wC PyData.none) (wCons (wTup wNil) wNil))) (wLc (wIt (wVar 1)) (.n 5) wYes (wTup (wCons (wVar 5) wNil)) [5])) (wLst (wCons (wTup (wCons (wVar 3) wNil)) wNil))))
def w__law_trials_of_2 : WS := (wSeq (wSet (wBin fIx (wLc (wRng1 (wCons (wBin fAdd (wPrim fLen (wCons (wBor 1) wNil)) (wC (PyData.int 1))) wNil)) (.n 4) (wB (wBin (fIn true) (wBin fAdd (wC (PyData.str "new")) (wPrim fToStr (wCons (wBor 4) wNil))) (wBor 1))) (wBin fAdd (wC (PyData.str "new")) (wPrim fToStr (wCons (wBor 4) wNil))) [4]) (wC (PyData.int 0))) 3) w__law_trials_of_1)
def w__law_trials_of : WS := (wSeq (wSet (wCall (fs__law_rising) (wCons (wPrim fSumL (wCons (wLc (wIt (wVar 0)) (.n 2) wYes (wPrim fToLst (wCons (wCall (fs__law_stuff) (wCons (wVar 2) wNil)) wNil)) [2]) (wCons (wLst wNil) wNil))) wNil)) 1) w__law_trials_of_2)

def newK (k : Nat) : Str := Str.ofString "new" ++ Str.ofString (toString ((0 : Int) + (k : Int)))
theorem newK_nodup : ((List.range 101).map newK).Nodup := by decide +kernel
theorem newK_it : ∀ k < 101, isIt (newK k) := by
  have : ((List.range 101).all fun k => okS (newK k) && isItemS (newK k)) = true := by decide +kernel
  intro k hk
  have := List.all_eq_true.mp this k (List.mem_range.mpr hk)
  exact Bool.and_eq_true_iff.mp this
theorem sub_len : ∀ {l m : List Str}, l.Nodup → (∀ x ∈ l, x ∈ m) → l.length ≤ m.length
  | [], _, _, _ => Nat.zero_le _
  | x :: l, m, nd, h => by
    obtain ⟨hx, nd'⟩ := List.nodup_cons.mp nd
    have hin : x ∈ m := h x (List.mem_cons_self ..)
    have ih := sub_len (l := l) (m := m.erase x) nd' fun z hz => (List.mem_erase_of_ne fun (e : z = x) => hx (by rw [← e]; exact hz)).mpr (h z (List.mem_cons_of_mem _ hz))
    have h2 := List.length_erase_of_mem hin
    have h3 : 0 < m.length := List.length_pos_of_mem hin
    simp only [List.length_cons]
    omega
theorem fresh_is {items : List Str} (h : items.length ≤ 100) : ∃ k, k < items.length + 1 ∧ newK k ∉ items := by
  refine Classical.byContradiction fun hn => ?_
  have hall : ∀ k, k < items.length + 1 → newK k ∈ items := fun k hk => Classical.byContradiction fun z => hn ⟨k, hk, z⟩
  have nd : ((List.range (items.length + 1)).map newK).Nodup := by
    refine List.Nodup.sublist ?_ newK_nodup
    exact List.Sublist.map _ (List.range_sublist.mpr (by omega))
  have := sub_len nd fun x hx => by
    obtain ⟨k, hk, rfl⟩ := List.mem_map.mp hx
    exact hall k (List.mem_range.mp hk)
  simp at this
  omega
theorem fresh_head {items : List Str} (h : items.length ≤ 100) : ∃ k, k < 101 ∧ newK k ∉ items ∧ atI ((List.range (items.length + 1)).filterMap fun k => if newK k ∉ items then some (PyData.str (newK k)) else none) 0 = some (.str (newK k)) := by
  obtain ⟨k0, h1, h2⟩ := fresh_is h
  have hm : PyData.str (newK k0) ∈ (List.range (items.length + 1)).filterMap fun k => if newK k ∉ items then some (PyData.str (newK k)) else none :=
    List.mem_filterMap.mpr ⟨k0, List.mem_range.mpr h1, by rw [if_pos h2]⟩
  cases e : (List.range (items.length + 1)).filterMap fun k => if newK k ∉ items then some (PyData.str (newK k)) else none with
  | nil => rw [e] at hm; cases hm
  | cons d r =>
    have hd : d ∈ (List.range (items.length + 1)).filterMap fun k => if newK k ∉ items then some (PyData.str (newK k)) else none := by rw [e]; simp
    obtain ⟨k, hk, hv⟩ := List.mem_filterMap.mp hd
    have hk := List.mem_range.mp hk
    by_cases hg : newK k ∉ items
    · rw [if_pos hg] at hv
      refine ⟨k, by omega, hg, ?_⟩
      rw [Option.some.inj hv]
      have := atI_nat (xs := d :: r) (k := 0) (x := d) rfl
      simpa using this
    · rw [if_neg hg] at hv
      cases hv
def trialsV (items : List Str) (fresh : Str) : List (Option (List Str)) := none :: some [] :: (items.map (fun i => some [i]) ++ [some [fresh]])
def fs__law_trials_of : FS := fun as Q _ => ∃ (ms : List Mng), as = [.v (.list (ms.map Mng.d))] ∧ 0 < ms.length ∧ ms.length ≤ 4 ∧ (∀ m ∈ ms, m.Ok 20) ∧
  ∀ fresh : Str, isIt fresh → fresh ∉ riseF (ms.map Mng.items).flatten → Q (.o ((trialsV (riseF (ms.map Mng.items).flatten) fresh).map optT)) []
theorem l__law_trials_of : ∀ as Q X, fs__law_trials_of as Q X → as.length = 1 := by rintro as Q X ⟨_, rfl, _⟩; rfl
theorem lists_txs : ∀ ms : List Mng, listsD (ms.map fun m => PyData.list (txs m.items)) = some (ms.map fun m => txs m.items)
  | [] => rfl
  | m :: ms => by
    show (listsD (ms.map fun m => PyData.list (txs m.items))).map (txs m.items :: ·) = _
    rw [lists_txs ms]
    rfl
theorem flat_txs : ∀ ms : List Mng, (ms.map fun m => txs m.items).flatten = txs (ms.map Mng.items).flatten
  | [] => rfl
  | m :: ms => by
    simp only [List.map_cons, List.flatten_cons, flat_txs ms, txs, List.map_append]
theorem items_len : ∀ {ms : List Mng}, (∀ m ∈ ms, m.Ok 20) → (ms.map Mng.items).flatten.length ≤ 20 * ms.length
  | [], _ => by simp
  | m :: ms, h => by
    have h1 := (h m (by simp)).sz
    have h2 := items_len (ms := ms) fun x hx => h x (List.mem_cons_of_mem _ hx)
    simp only [List.map_cons, List.flatten_cons, List.length_append, List.length_cons]
    omega
theorem dig_len (k : Nat) (h : k < 101) : (Str.ofString "new").length + (Str.ofString (toString ((0 : Int) + (k : Int)))).length ≤ 40 := by
  have : ∀ k : Nat, k < 101 → decide ((Str.ofString "new").length + (Str.ofString (toString ((0 : Int) + (k : Int)))).length ≤ 40) = true := by decide +kernel
  exact of_decide_eq_true (this k h)
theorem m__law_trials_of : ∀ as Q X, fs__law_trials_of as Q X → w__law_trials_of (as ++ List.replicate 5 Sl.no) (endP 1 Q X) := by
  rintro as Q X ⟨ms, rfl, hn, h4, hok, h⟩
  have hil := items_len hok
  simp only [w__law_trials_of, wSeq, wIfS, wRet, wRetN, wNext, wBreak, wCont, wNever, wSet, wAsg, wPar, wExpr, wFor, wApp, wPop, wSetIx, wVar, wBor, wTake, wC, wBin, wNil, wCons, wPrim, wCall, wTup, wLst, wSl, wNone, wSome, wM0, wM1, wB, wAndT, wOrT, wNotT, wAndV, wOrV, wNotV, wIf, wIsi, wIsi2, wNeg, wChain, wSortedSet, X_txl, X_txt, wIt, wIt.rdf, wRng1, wRng2, wLc, wYes, lcS, wipeG, backG, noMut, rd_d, rd_o, rd_b, rdf_d, rdf_o, fz_d, fz_o, fz_b, sl_d, sl_o, ok_d, ok_o, argSl_d, argSl_o, argSl_b, items_l, items_t, items_s, rds, rdF, stOk_eq, ncO_some, nc_v, nc_own, nc_no, stOks, setAll, wG, mutAt, putAt, Sl.mu, Sl.put, argSls, noB, fewB, putB, endP, cellsOf, cellF, List.getElem?_cons_zero, List.getElem?_cons_succ, List.getElem?_nil, List.set_cons_zero, List.set_cons_succ, List.append_eq, List.nil_append, List.cons_append, List.replicate, List.take_succ_cons, List.take_zero, List.take_nil, List.filterMap_cons, List.filterMap_nil, Option.map_some, Option.map_none, List.length_cons, List.length_nil, F_add_i, F_add_s, F_add_l, F_add_t, F_int, F_cmp_i, F_cmp_s, F_in_l, F_in_t, F_in_s, F_ix_l, F_ix_t, F_ix_s, F_sl_l, F_sl_t, F_sl_s, F_len_l, F_len_t, F_len_s, F_toInt, F_toStr, F_toTup_l, F_toTup_t, F_toLst_l, F_toLst_t, F_all, F_any, F_split, F_join_l, F_join_t, F_part, F_start, F_end, F_strip, F_sorted_l, F_sorted_t, N_none, N_str, N_int, N_bool, N_tup, N_lst, S_str, S_none, S_int, S_bool, S_tup, S_lst, I_str, I_none, I_int, I_bool, I_tup, I_lst, B_str, B_none, B_int, B_bool, B_tup, B_lst, T_str, T_none, T_int, T_bool, T_tup, T_lst, L_str, L_none, L_int, L_bool, L_tup, L_lst, D_str, D_none, D_int, D_bool, D_tup, D_lst, N_dic, S_dic, I_dic, B_dic, T_dic, L_dic, D_dic, E_ss, E_ii, E_bb, E_ns, E_is, E_bs, E_nn, isA_str, isA_int, isA_bool, isA_tuple, isA_list, isA_dict, fEq, fNe, fIsN, fNotN, eqv_str, eqv_int, eqv_bool, exists_eq_left', exists_eq_left, exists_and_left, R.d.injEq, R.o.injEq, PyData.bool.injEq, PyData.str.injEq, PyData.int.injEq, PyData.tuple.injEq, PyData.list.injEq, List.cons.injEq, Option.some.injEq, and_true, true_and, and_self, Bool.not_true, Bool.not_false, Bool.false_eq_true, Bool.true_eq_false, Bool.true_and, Bool.false_and, Bool.true_or, Bool.false_or, if_true, if_false, reduceIte, reduceCtorEq, not_false_eq_true, ne_eq, true_or, or_true, false_or, or_false, List.map_nil, List.map_cons, Option.toList_some, Option.toList_none, false_and, and_false, Bool.not_eq_true, Bool.or_false, Bool.or_true, Bool.and_true, Bool.and_false]
  refine ⟨lz (by simp only [List.length_map]; omega), lcI_mapE ms Mng.d (fun m => .list (txs m.items)) rfl (fun m hm Kn kn => ?_) ?_⟩
  · simp only [fs__law_stuff, wSeq, wIfS, wRet, wRetN, wNext, wBreak, wCont, wNever, wSet, wAsg, wPar, wExpr, wFor, wApp, wPop, wSetIx, wVar, wBor, wTake, wC, wBin, wNil, wCons, wPrim, wCall, wTup, wLst, wSl, wNone, wSome, wM0, wM1, wB, wAndT, wOrT, wNotT, wAndV, wOrV, wNotV, wIf, wIsi, wIsi2, wNeg, wChain, wSortedSet, X_txl, X_txt, wIt, wIt.rdf, wRng1, wRng2, wLc, wYes, lcS, wipeG, backG, noMut, rd_d, rd_o, rd_b, rdf_d, rdf_o, fz_d, fz_o, fz_b, sl_d, sl_o, ok_d, ok_o, argSl_d, argSl_o, argSl_b, items_l, items_t, items_s, rds, rdF, stOk_eq, ncO_some, nc_v, nc_own, nc_no, stOks, setAll, wG, mutAt, putAt, Sl.mu, Sl.put, argSls, noB, fewB, putB, endP, cellsOf, cellF, List.getElem?_cons_zero, List.getElem?_cons_succ, List.getElem?_nil, List.set_cons_zero, List.set_cons_succ, List.append_eq, List.nil_append, List.cons_append, List.replicate, List.take_succ_cons, List.take_zero, List.take_nil, List.filterMap_cons, List.filterMap_nil, Option.map_some, Option.map_none, List.length_cons, List.length_nil, F_add_i, F_add_s, F_add_l, F_add_t, F_int, F_cmp_i, F_cmp_s, F_in_l, F_in_t, F_in_s, F_ix_l, F_ix_t, F_ix_s, F_sl_l, F_sl_t, F_sl_s, F_len_l, F_len_t, F_len_s, F_toInt, F_toStr, F_toTup_l, F_toTup_t, F_toLst_l, F_toLst_t, F_all, F_any, F_split, F_join_l, F_join_t, F_part, F_start, F_end, F_strip, F_sorted_l, F_sorted_t, N_none, N_str, N_int, N_bool, N_tup, N_lst, S_str, S_none, S_int, S_bool, S_tup, S_lst, I_str, I_none, I_int, I_bool, I_tup, I_lst, B_str, B_none, B_int, B_bool, B_tup, B_lst, T_str, T_none, T_int, T_bool, T_tup, T_lst, L_str, L_none, L_int, L_bool, L_tup, L_lst, D_str, D_none, D_int, D_bool, D_tup, D_lst, N_dic, S_dic, I_dic, B_dic, T_dic, L_dic, D_dic, E_ss, E_ii, E_bb, E_ns, E_is, E_bs, E_nn, isA_str, isA_int, isA_bool, isA_tuple, isA_list, isA_dict, fEq, fNe, fIsN, fNotN, eqv_str, eqv_int, eqv_bool, exists_eq_left', exists_eq_left, exists_and_left, R.d.injEq, R.o.injEq, PyData.bool.injEq, PyData.str.injEq, PyData.int.injEq, PyData.tuple.injEq, PyData.list.injEq, List.cons.injEq, Option.some.injEq, and_true, true_and, and_self, Bool.not_true, Bool.not_false, Bool.false_eq_true, Bool.true_eq_false, Bool.true_and, Bool.false_and, Bool.true_or, Bool.false_or, if_true, if_false, reduceIte, reduceCtorEq, not_false_eq_true, ne_eq, true_or, or_true, false_or, or_false, List.map_nil, List.map_cons, Option.toList_some, Option.toList_none, false_and, and_false, Bool.not_eq_true, Bool.or_false, Bool.or_true, Bool.and_true, Bool.and_false]
    refine ⟨m, rfl, 20, hok m hm, by decide, ?_⟩
    simpa only [wSeq, wIfS, wRet, wRetN, wNext, wBreak, wCont, wNever, wSet, wAsg, wPar, wExpr, wFor, wApp, wPop, wSetIx, wVar, wBor, wTake, wC, wBin, wNil, wCons, wPrim, wCall, wTup, wLst, wSl, wNone, wSome, wM0, wM1, wB, wAndT, wOrT, wNotT, wAndV, wOrV, wNotV, wIf, wIsi, wIsi2, wNeg, wChain, wSortedSet, X_txl, X_txt, wIt, wIt.rdf, wRng1, wRng2, wLc, wYes, lcS, wipeG, backG, noMut, rd_d, rd_o, rd_b, rdf_d, rdf_o, fz_d, fz_o, fz_b, sl_d, sl_o, ok_d, ok_o, argSl_d, argSl_o, argSl_b, items_l, items_t, items_s, rds, rdF, stOk_eq, ncO_some, nc_v, nc_own, nc_no, stOks, setAll, wG, mutAt, putAt, Sl.mu, Sl.put, argSls, noB, fewB, putB, endP, cellsOf, cellF, List.getElem?_cons_zero, List.getElem?_cons_succ, List.getElem?_nil, List.set_cons_zero, List.set_cons_succ, List.append_eq, List.nil_append, List.cons_append, List.replicate, List.take_succ_cons, List.take_zero, List.take_nil, List.filterMap_cons, List.filterMap_nil, Option.map_some, Option.map_none, List.length_cons, List.length_nil, F_add_i, F_add_s, F_add_l, F_add_t, F_int, F_cmp_i, F_cmp_s, F_in_l, F_in_t, F_in_s, F_ix_l, F_ix_t, F_ix_s, F_sl_l, F_sl_t, F_sl_s, F_len_l, F_len_t, F_len_s, F_toInt, F_toStr, F_toTup_l, F_toTup_t, F_toLst_l, F_toLst_t, F_all, F_any, F_split, F_join_l, F_join_t, F_part, F_start, F_end, F_strip, F_sorted_l, F_sorted_t, N_none, N_str, N_int, N_bool, N_tup, N_lst, S_str, S_none, S_int, S_bool, S_tup, S_lst, I_str, I_none, I_int, I_bool, I_tup, I_lst, B_str, B_none, B_int, B_bool, B_tup, B_lst, T_str, T_none, T_int, T_bool, T_tup, T_lst, L_str, L_none, L_int, L_bool, L_tup, L_lst, D_str, D_none, D_int, D_bool, D_tup, D_lst, N_dic, S_dic, I_dic, B_dic, T_dic, L_dic, D_dic, E_ss, E_ii, E_bb, E_ns, E_is, E_bs, E_nn, isA_str, isA_int, isA_bool, isA_tuple, isA_list, isA_dict, fEq, fNe, fIsN, fNotN, eqv_str, eqv_int, eqv_bool, exists_eq_left', exists_eq_left, exists_and_left, R.d.injEq, R.o.injEq, PyData.bool.injEq, PyData.str.injEq, PyData.int.injEq, PyData.tuple.injEq, PyData.list.injEq, List.cons.injEq, Option.some.injEq, and_true, true_and, and_self, Bool.not_true, Bool.not_false, Bool.false_eq_true, Bool.true_eq_false, Bool.true_and, Bool.false_and, Bool.true_or, Bool.false_or, if_true, if_false, reduceIte, reduceCtorEq, not_false_eq_true, ne_eq, true_or, or_true, false_or, or_false, List.map_nil, List.map_cons, Option.toList_some, Option.toList_none, false_and, and_false, Bool.not_eq_true, Bool.or_false, Bool.or_true, Bool.and_true, Bool.and_false] using kn
  · simp only [wSeq, wIfS, wRet, wRetN, wNext, wBreak, wCont, wNever, wSet, wAsg, wPar, wExpr, wFor, wApp, wPop, wSetIx, wVar, wBor, wTake, wC, wBin, wNil, wCons, wPrim, wCall, wTup, wLst, wSl, wNone, wSome, wM0, wM1, wB, wAndT, wOrT, wNotT, wAndV, wOrV, wNotV, wIf, wIsi, wIsi2, wNeg, wChain, wSortedSet, X_txl, X_txt, wIt, wIt.rdf, wRng1, wRng2, wLc, wYes, lcS, wipeG, backG, noMut, rd_d, rd_o, rd_b, rdf_d, rdf_o, fz_d, fz_o, fz_b, sl_d, sl_o, ok_d, ok_o, argSl_d, argSl_o, argSl_b, items_l, items_t, items_s, rds, rdF, stOk_eq, ncO_some, nc_v, nc_own, nc_no, stOks, setAll, wG, mutAt, putAt, Sl.mu, Sl.put, argSls, noB, fewB, putB, endP, cellsOf, cellF, List.getElem?_cons_zero, List.getElem?_cons_succ, List.getElem?_nil, List.set_cons_zero, List.set_cons_succ, List.append_eq, List.nil_append, List.cons_append, List.replicate, List.take_succ_cons, List.take_zero, List.take_nil, List.filterMap_cons, List.filterMap_nil, Option.map_some, Option.map_none, List.length_cons, List.length_nil, F_add_i, F_add_s, F_add_l, F_add_t, F_int, F_cmp_i, F_cmp_s, F_in_l, F_in_t, F_in_s, F_ix_l, F_ix_t, F_ix_s, F_sl_l, F_sl_t, F_sl_s, F_len_l, F_len_t, F_len_s, F_toInt, F_toStr, F_toTup_l, F_toTup_t, F_toLst_l, F_toLst_t, F_all, F_any, F_split, F_join_l, F_join_t, F_part, F_start, F_end, F_strip, F_sorted_l, F_sorted_t, N_none, N_str, N_int, N_bool, N_tup, N_lst, S_str, S_none, S_int, S_bool, S_tup, S_lst, I_str, I_none, I_int, I_bool, I_tup, I_lst, B_str, B_none, B_int, B_bool, B_tup, B_lst, T_str, T_none, T_int, T_bool, T_tup, T_lst, L_str, L_none, L_int, L_bool, L_tup, L_lst, D_str, D_none, D_int, D_bool, D_tup, D_lst, N_dic, S_dic, I_dic, B_dic, T_dic, L_dic, D_dic, E_ss, E_ii, E_bb, E_ns, E_is, E_bs, E_nn, isA_str, isA_int, isA_bool, isA_tuple, isA_list, isA_dict, fEq, fNe, fIsN, fNotN, eqv_str, eqv_int, eqv_bool, exists_eq_left', exists_eq_left, exists_and_left, R.d.injEq, R.o.injEq, PyData.bool.injEq, PyData.str.injEq, PyData.int.injEq, PyData.tuple.injEq, PyData.list.injEq, List.cons.injEq, Option.some.injEq, and_true, true_and, and_self, Bool.not_true, Bool.not_false, Bool.false_eq_true, Bool.true_eq_false, Bool.true_and, Bool.false_and, Bool.true_or, Bool.false_or, if_true, if_false, reduceIte, reduceCtorEq, not_false_eq_true, ne_eq, true_or, or_true, false_or, or_false, List.map_nil, List.map_cons, Option.toList_some, Option.toList_none, false_and, and_false, Bool.not_eq_true, Bool.or_false, Bool.or_true, Bool.and_true, Bool.and_false, F_sumL]
    refine ⟨by decide, _, lists_txs ms, by simpa using hn, ?_, ?_⟩
    · have : ((ms.map fun m => txs m.items).map (·.length)).sum = (ms.map Mng.items).flatten.length := by
        rw [← List.length_flatten, flat_txs, List.length_map]
      rw [this]
      omega
    rw [flat_txs]
    have hsub : ∀ s ∈ riseF (ms.map Mng.items).flatten, isIt s := fun s hs => by
      obtain ⟨l, hl, hs⟩ := List.mem_flatten.mp (mem_riseF.mp hs)
      obtain ⟨m, hm, rfl⟩ := List.mem_map.mp hl
      exact (hok m hm).its s hs
    have hlen := len_riseF (ms.map Mng.items).flatten
    simp only [fs__law_rising, wSeq, wIfS, wRet, wRetN, wNext, wBreak, wCont, wNever, wSet, wAsg, wPar, wExpr, wFor, wApp, wPop, wSetIx, wVar, wBor, wTake, wC, wBin, wNil, wCons, wPrim, wCall, wTup, wLst, wSl, wNone, wSome, wM0, wM1, wB, wAndT, wOrT, wNotT, wAndV, wOrV, wNotV, wIf, wIsi, wIsi2, wNeg, wChain, wSortedSet, X_txl, X_txt, wIt, wIt.rdf, wRng1, wRng2, wLc, wYes, lcS, wipeG, backG, noMut, rd_d, rd_o, rd_b, rdf_d, rdf_o, fz_d, fz_o, fz_b, sl_d, sl_o, ok_d, ok_o, argSl_d, argSl_o, argSl_b, items_l, items_t, items_s, rds, rdF, stOk_eq, ncO_some, nc_v, nc_own, nc_no, stOks, setAll, wG, mutAt, putAt, Sl.mu, Sl.put, argSls, noB, fewB, putB, endP, cellsOf, cellF, List.getElem?_cons_zero, List.getElem?_cons_succ, List.getElem?_nil, List.set_cons_zero, List.set_cons_succ, List.append_eq, List.nil_append, List.cons_append, List.replicate, List.take_succ_cons, List.take_zero, List.take_nil, List.filterMap_cons, List.filterMap_nil, Option.map_some, Option.map_none, List.length_cons, List.length_nil, F_add_i, F_add_s, F_add_l, F_add_t, F_int, F_cmp_i, F_cmp_s, F_in_l, F_in_t, F_in_s, F_ix_l, F_ix_t, F_ix_s, F_sl_l, F_sl_t, F_sl_s, F_len_l, F_len_t, F_len_s, F_toInt, F_toStr, F_toTup_l, F_toTup_t, F_toLst_l, F_toLst_t, F_all, F_any, F_split, F_join_l, F_join_t, F_part, F_start, F_end, F_strip, F_sorted_l, F_sorted_t, N_none, N_str, N_int, N_bool, N_tup, N_lst, S_str, S_none, S_int, S_bool, S_tup, S_lst, I_str, I_none, I_int, I_bool, I_tup, I_lst, B_str, B_none, B_int, B_bool, B_tup, B_lst, T_str, T_none, T_int, T_bool, T_tup, T_lst, L_str, L_none, L_int, L_bool, L_tup, L_lst, D_str, D_none, D_int, D_bool, D_tup, D_lst, N_dic, S_dic, I_dic, B_dic, T_dic, L_dic, D_dic, E_ss, E_ii, E_bb, E_ns, E_is, E_bs, E_nn, isA_str, isA_int, isA_bool, isA_tuple, isA_list, isA_dict, fEq, fNe, fIsN, fNotN, eqv_str, eqv_int, eqv_bool, exists_eq_left', exists_eq_left, exists_and_left, R.d.injEq, R.o.injEq, PyData.bool.injEq, PyData.str.injEq, PyData.int.injEq, PyData.tuple.injEq, PyData.list.injEq, List.cons.injEq, Option.some.injEq, and_true, true_and, and_self, Bool.not_true, Bool.not_false, Bool.false_eq_true, Bool.true_eq_false, Bool.true_and, Bool.false_and, Bool.true_or, Bool.false_or, if_true, if_false, reduceIte, reduceCtorEq, not_false_eq_true, ne_eq, true_or, or_true, false_or, or_false, List.map_nil, List.map_cons, Option.toList_some, Option.toList_none, false_and, and_false, Bool.not_eq_true, Bool.or_false, Bool.or_true, Bool.and_true, Bool.and_false]
    refine ⟨_, _, rfl, .inr rfl, by omega, ?_⟩
    revert h hsub hlen
    generalize riseF (ms.map Mng.items).flatten = items
    intro h hsub hlen
    have hl100 : items.length ≤ 100 := by omega
    simp only [w__law_trials_of_2, wSeq, wIfS, wRet, wRetN, wNext, wBreak, wCont, wNever, wSet, wAsg, wPar, wExpr, wFor, wApp, wPop, wSetIx, wVar, wBor, wTake, wC, wBin, wNil, wCons, wPrim, wCall, wTup, wLst, wSl, wNone, wSome, wM0, wM1, wB, wAndT, wOrT, wNotT, wAndV, wOrV, wNotV, wIf, wIsi, wIsi2, wNeg, wChain, wSortedSet, X_txl, X_txt, wIt, wIt.rdf, wRng1, wRng2, wLc, wYes, lcS, wipeG, backG, noMut, rd_d, rd_o, rd_b, rdf_d, rdf_o, fz_d, fz_o, fz_b, sl_d, sl_o, ok_d, ok_o, argSl_d, argSl_o, argSl_b, items_l, items_t, items_s, rds, rdF, stOk_eq, ncO_some, nc_v, nc_own, nc_no, stOks, setAll, wG, mutAt, putAt, Sl.mu, Sl.put, argSls, noB, fewB, putB, endP, cellsOf, cellF, List.getElem?_cons_zero, List.getElem?_cons_succ, List.getElem?_nil, List.set_cons_zero, List.set_cons_succ, List.append_eq, List.nil_append, List.cons_append, List.replicate, List.take_succ_cons, List.take_zero, List.take_nil, List.filterMap_cons, List.filterMap_nil, Option.map_some, Option.map_none, List.length_cons, List.length_nil, F_add_i, F_add_s, F_add_l, F_add_t, F_int, F_cmp_i, F_cmp_s, F_in_l, F_in_t, F_in_s, F_ix_l, F_ix_t, F_ix_s, F_sl_l, F_sl_t, F_sl_s, F_len_l, F_len_t, F_len_s, F_toInt, F_toStr, F_toTup_l, F_toTup_t, F_toLst_l, F_toLst_t, F_all, F_any, F_split, F_join_l, F_join_t, F_part, F_start, F_end, F_strip, F_sorted_l, F_sorted_t, N_none, N_str, N_int, N_bool, N_tup, N_lst, S_str, S_none, S_int, S_bool, S_tup, S_lst, I_str, I_none, I_int, I_bool, I_tup, I_lst, B_str, B_none, B_int, B_bool, B_tup, B_lst, T_str, T_none, T_int, T_bool, T_tup, T_lst, L_str, L_none, L_int, L_bool, L_tup, L_lst, D_str, D_none, D_int, D_bool, D_tup, D_lst, N_dic, S_dic, I_dic, B_dic, T_dic, L_dic, D_dic, E_ss, E_ii, E_bb, E_ns, E_is, E_bs, E_nn, isA_str, isA_int, isA_bool, isA_tuple, isA_list, isA_dict, fEq, fNe, fIsN, fNotN, eqv_str, eqv_int, eqv_bool, exists_eq_left', exists_eq_left, exists_and_left, R.d.injEq, R.o.injEq, PyData.bool.injEq, PyData.str.injEq, PyData.int.injEq, PyData.tuple.injEq, PyData.list.injEq, List.cons.injEq, Option.some.injEq, and_true, true_and, and_self, Bool.not_true, Bool.not_false, Bool.false_eq_true, Bool.true_eq_false, Bool.true_and, Bool.false_and, Bool.true_or, Bool.false_or, if_true, if_false, reduceIte, reduceCtorEq, not_false_eq_true, ne_eq, true_or, or_true, false_or, or_false, List.map_nil, List.map_cons, Option.toList_some, Option.toList_none, false_and, and_false, Bool.not_eq_true, Bool.or_false, Bool.or_true, Bool.and_true, Bool.and_false, List.length_map]
    refine ⟨⟨by omega, by omega⟩, ?_, ?_⟩
    · rw [rangeL_map, List.length_map, List.length_range]
      exact lz (by omega)
    have en : (((items.length : Nat) : Int) + 1).toNat = items.length + 1 := by omega
    rw [en]
    refine lcI_fmE (List.range (items.length + 1)) (fun (k : Nat) => .int (0 + (k : Int))) (fun k => if newK k ∉ items then some (.str (newK k)) else none) (by rw [rangeL_map]) (fun k hk Kn kn => ?_) ?_
    · have hk := List.mem_range.mp hk
      have hd := dig_len k (by omega)
      have hlog : ((0 : Int) + (k : Int)).natAbs.log2 < 1920 := by
        have e : ((0 : Int) + (k : Int)).natAbs = k := by omega
        rw [e]
        exact Nat.lt_of_le_of_lt (Nat.log2_le_self k) (by omega)
      have hi : inD (.str (newK k)) (items.map .str) = decide (newK k ∈ items) := inD_strs _ _
      have hz : (Str.ofString "new").length + (Str.ofString (toString ((0 : Int) + (k : Int)))).length ≤ sizeLine := Nat.le_trans hd (by decide)
      simp only [wSeq, wIfS, wRet, wRetN, wNext, wBreak, wCont, wNever, wSet, wAsg, wPar, wExpr, wFor, wApp, wPop, wSetIx, wVar, wBor, wTake, wC, wBin, wNil, wCons, wPrim, wCall, wTup, wLst, wSl, wNone, wSome, wM0, wM1, wB, wAndT, wOrT, wNotT, wAndV, wOrV, wNotV, wIf, wIsi, wIsi2, wNeg, wChain, wSortedSet, X_txl, X_txt, wIt, wIt.rdf, wRng1, wRng2, wLc, wYes, lcS, wipeG, backG, noMut, rd_d, rd_o, rd_b, rdf_d, rdf_o, fz_d, fz_o, fz_b, sl_d, sl_o, ok_d, ok_o, argSl_d, argSl_o, argSl_b, items_l, items_t, items_s, rds, rdF, stOk_eq, ncO_some, nc_v, nc_own, nc_no, stOks, setAll, wG, mutAt, putAt, Sl.mu, Sl.put, argSls, noB, fewB, putB, endP, cellsOf, cellF, List.getElem?_cons_zero, List.getElem?_cons_succ, List.getElem?_nil, List.set_cons_zero, List.set_cons_succ, List.append_eq, List.nil_append, List.cons_append, List.replicate, List.take_succ_cons, List.take_zero, List.take_nil, List.filterMap_cons, List.filterMap_nil, Option.map_some, Option.map_none, List.length_cons, List.length_nil, F_add_i, F_add_s, F_add_l, F_add_t, F_int, F_cmp_i, F_cmp_s, F_in_l, F_in_t, F_in_s, F_ix_l, F_ix_t, F_ix_s, F_sl_l, F_sl_t, F_sl_s, F_len_l, F_len_t, F_len_s, F_toInt, F_toStr, F_toTup_l, F_toTup_t, F_toLst_l, F_toLst_t, F_all, F_any, F_split, F_join_l, F_join_t, F_part, F_start, F_end, F_strip, F_sorted_l, F_sorted_t, N_none, N_str, N_int, N_bool, N_tup, N_lst, S_str, S_none, S_int, S_bool, S_tup, S_lst, I_str, I_none, I_int, I_bool, I_tup, I_lst, B_str, B_none, B_int, B_bool, B_tup, B_lst, T_str, T_none, T_int, T_bool, T_tup, T_lst, L_str, L_none, L_int, L_bool, L_tup, L_lst, D_str, D_none, D_int, D_bool, D_tup, D_lst, N_dic, S_dic, I_dic, B_dic, T_dic, L_dic, D_dic, E_ss, E_ii, E_bb, E_ns, E_is, E_bs, E_nn, isA_str, isA_int, isA_bool, isA_tuple, isA_list, isA_dict, fEq, fNe, fIsN, fNotN, eqv_str, eqv_int, eqv_bool, exists_eq_left', exists_eq_left, exists_and_left, R.d.injEq, R.o.injEq, PyData.bool.injEq, PyData.str.injEq, PyData.int.injEq, PyData.tuple.injEq, PyData.list.injEq, List.cons.injEq, Option.some.injEq, and_true, true_and, and_self, Bool.not_true, Bool.not_false, Bool.false_eq_true, Bool.true_eq_false, Bool.true_and, Bool.false_and, Bool.true_or, Bool.false_or, if_true, if_false, reduceIte, reduceCtorEq, not_false_eq_true, ne_eq, true_or, or_true, false_or, or_false, List.map_nil, List.map_cons, Option.toList_some, Option.toList_none, false_and, and_false, Bool.not_eq_true, Bool.or_false, Bool.or_true, Bool.and_true, Bool.and_false, hlog, hz, flat_str, flat_strs]
      rw [show inD (.str (Str.ofString "new" ++ Str.ofString (toString ((0 : Int) + (k : Int))))) (txs items) = decide (newK k ∈ items) from hi]
      by_cases hg : newK k ∈ items
      · simpa [hg] using kn
      · simp only [hg, not_false_eq_true, if_true] at kn
        simp only [hg, decide_false, exists_eq_left', exists_eq_left, exists_and_left, R.d.injEq, R.o.injEq, PyData.bool.injEq, PyData.str.injEq, PyData.int.injEq, PyData.tuple.injEq, PyData.list.injEq, List.cons.injEq, Option.some.injEq, and_true, true_and, and_self, Bool.not_true, Bool.not_false, Bool.false_eq_true, Bool.true_eq_false, Bool.true_and, Bool.false_and, Bool.true_or, Bool.false_or, if_true, if_false, reduceIte, reduceCtorEq, not_false_eq_true, ne_eq, true_or, or_true, false_or, or_false, List.map_nil, List.map_cons, Option.toList_some, Option.toList_none, false_and, and_false, Bool.not_eq_true, Bool.or_false, Bool.or_true, Bool.and_true, Bool.and_false]
        exact kn
    · obtain ⟨k, hk, hg, ha⟩ := fresh_head hl100
      refine ⟨_, ha, ?_⟩
      simp only [w__law_trials_of_1, wSeq, wIfS, wRet, wRetN, wNext, wBreak, wCont, wNever, wSet, wAsg, wPar, wExpr, wFor, wApp, wPop, wSetIx, wVar, wBor, wTake, wC, wBin, wNil, wCons, wPrim, wCall, wTup, wLst, wSl, wNone, wSome, wM0, wM1, wB, wAndT, wOrT, wNotT, wAndV, wOrV, wNotV, wIf, wIsi, wIsi2, wNeg, wChain, wSortedSet, X_txl, X_txt, wIt, wIt.rdf, wRng1, wRng2, wLc, wYes, lcS, wipeG, backG, noMut, rd_d, rd_o, rd_b, rdf_d, rdf_o, fz_d, fz_o, fz_b, sl_d, sl_o, ok_d, ok_o, argSl_d, argSl_o, argSl_b, items_l, items_t, items_s, rds, rdF, stOk_eq, ncO_some, nc_v, nc_own, nc_no, stOks, setAll, wG, mutAt, putAt, Sl.mu, Sl.put, argSls, noB, fewB, putB, endP, cellsOf, cellF, List.getElem?_cons_zero, List.getElem?_cons_succ, List.getElem?_nil, List.set_cons_zero, List.set_cons_succ, List.append_eq, List.nil_append, List.cons_append, List.replicate, List.take_succ_cons, List.take_zero, List.take_nil, List.filterMap_cons, List.filterMap_nil, Option.map_some, Option.map_none, List.length_cons, List.length_nil, F_add_i, F_add_s, F_add_l, F_add_t, F_int, F_cmp_i, F_cmp_s, F_in_l, F_in_t, F_in_s, F_ix_l, F_ix_t, F_ix_s, F_sl_l, F_sl_t, F_sl_s, F_len_l, F_len_t, F_len_s, F_toInt, F_toStr, F_toTup_l, F_toTup_t, F_toLst_l, F_toLst_t, F_all, F_any, F_split, F_join_l, F_join_t, F_part, F_start, F_end, F_strip, F_sorted_l, F_sorted_t, N_none, N_str, N_int, N_bool, N_tup, N_lst, S_str, S_none, S_int, S_bool, S_tup, S_lst, I_str, I_none, I_int, I_bool, I_tup, I_lst, B_str, B_none, B_int, B_bool, B_tup, B_lst, T_str, T_none, T_int, T_bool, T_tup, T_lst, L_str, L_none, L_int, L_bool, L_tup, L_lst, D_str, D_none, D_int, D_bool, D_tup, D_lst, N_dic, S_dic, I_dic, B_dic, T_dic, L_dic, D_dic, E_ss, E_ii, E_bb, E_ns, E_is, E_bs, E_nn, isA_str, isA_int, isA_bool, isA_tuple, isA_list, isA_dict, fEq, fNe, fIsN, fNotN, eqv_str, eqv_int, eqv_bool, exists_eq_left', exists_eq_left, exists_and_left, R.d.injEq, R.o.injEq, PyData.bool.injEq, PyData.str.injEq, PyData.int.injEq, PyData.tuple.injEq, PyData.list.injEq, List.cons.injEq, Option.some.injEq, and_true, true_and, and_self, Bool.not_true, Bool.not_false, Bool.false_eq_true, Bool.true_eq_false, Bool.true_and, Bool.false_and, Bool.true_or, Bool.false_or, if_true, if_false, reduceIte, reduceCtorEq, not_false_eq_true, ne_eq, true_or, or_true, false_or, or_false, List.map_nil, List.map_cons, Option.toList_some, Option.toList_none, false_and, and_false, Bool.not_eq_true, Bool.or_false, Bool.or_true, Bool.and_true, Bool.and_false]
      refine ⟨by decide, by decide, lz (by simp only [List.length_map]; omega), lcI_mapE items PyData.str (fun i => .tuple [.str i]) rfl (fun i hi Kn kn => ?_) ?_⟩
      · simp only [wSeq, wIfS, wRet, wRetN, wNext, wBreak, wCont, wNever, wSet, wAsg, wPar, wExpr, wFor, wApp, wPop, wSetIx, wVar, wBor, wTake, wC, wBin, wNil, wCons, wPrim, wCall, wTup, wLst, wSl, wNone, wSome, wM0, wM1, wB, wAndT, wOrT, wNotT, wAndV, wOrV, wNotV, wIf, wIsi, wIsi2, wNeg, wChain, wSortedSet, X_txl, X_txt, wIt, wIt.rdf, wRng1, wRng2, wLc, wYes, lcS, wipeG, backG, noMut, rd_d, rd_o, rd_b, rdf_d, rdf_o, fz_d, fz_o, fz_b, sl_d, sl_o, ok_d, ok_o, argSl_d, argSl_o, argSl_b, items_l, items_t, items_s, rds, rdF, stOk_eq, ncO_some, nc_v, nc_own, nc_no, stOks, setAll, wG, mutAt, putAt, Sl.mu, Sl.put, argSls, noB, fewB, putB, endP, cellsOf, cellF, List.getElem?_cons_zero, List.getElem?_cons_succ, List.getElem?_nil, List.set_cons_zero, List.set_cons_succ, List.append_eq, List.nil_append, List.cons_append, List.replicate, List.take_succ_cons, List.take_zero, List.take_nil, List.filterMap_cons, List.filterMap_nil, Option.map_some, Option.map_none, List.length_cons, List.length_nil, F_add_i, F_add_s, F_add_l, F_add_t, F_int, F_cmp_i, F_cmp_s, F_in_l, F_in_t, F_in_s, F_ix_l, F_ix_t, F_ix_s, F_sl_l, F_sl_t, F_sl_s, F_len_l, F_len_t, F_len_s, F_toInt, F_toStr, F_toTup_l, F_toTup_t, F_toLst_l, F_toLst_t, F_all, F_any, F_split, F_join_l, F_join_t, F_part, F_start, F_end, F_strip, F_sorted_l, F_sorted_t, N_none, N_str, N_int, N_bool, N_tup, N_lst, S_str, S_none, S_int, S_bool, S_tup, S_lst, I_str, I_none, I_int, I_bool, I_tup, I_lst, B_str, B_none, B_int, B_bool, B_tup, B_lst, T_str, T_none, T_int, T_bool, T_tup, T_lst, L_str, L_none, L_int, L_bool, L_tup, L_lst, D_str, D_none, D_int, D_bool, D_tup, D_lst, N_dic, S_dic, I_dic, B_dic, T_dic, L_dic, D_dic, E_ss, E_ii, E_bb, E_ns, E_is, E_bs, E_nn, isA_str, isA_int, isA_bool, isA_tuple, isA_list, isA_dict, fEq, fNe, fIsN, fNotN, eqv_str, eqv_int, eqv_bool, exists_eq_left', exists_eq_left, exists_and_left, R.d.injEq, R.o.injEq, PyData.bool.injEq, PyData.str.injEq, PyData.int.injEq, PyData.tuple.injEq, PyData.list.injEq, List.cons.injEq, Option.some.injEq, and_true, true_and, and_self, Bool.not_true, Bool.not_false, Bool.false_eq_true, Bool.true_eq_false, Bool.true_and, Bool.false_and, Bool.true_or, Bool.false_or, if_true, if_false, reduceIte, reduceCtorEq, not_false_eq_true, ne_eq, true_or, or_true, false_or, or_false, List.map_nil, List.map_cons, Option.toList_some, Option.toList_none, false_and, and_false, Bool.not_eq_true, Bool.or_false, Bool.or_true, Bool.and_true, Bool.and_false]
        exact ⟨by decide, kn⟩
      · simp only [wSeq, wIfS, wRet, wRetN, wNext, wBreak, wCont, wNever, wSet, wAsg, wPar, wExpr, wFor, wApp, wPop, wSetIx, wVar, wBor, wTake, wC, wBin, wNil, wCons, wPrim, wCall, wTup, wLst, wSl, wNone, wSome, wM0, wM1, wB, wAndT, wOrT, wNotT, wAndV, wOrV, wNotV, wIf, wIsi, wIsi2, wNeg, wChain, wSortedSet, X_txl, X_txt, wIt, wIt.rdf, wRng1, wRng2, wLc, wYes, lcS, wipeG, backG, noMut, rd_d, rd_o, rd_b, rdf_d, rdf_o, fz_d, fz_o, fz_b, sl_d, sl_o, ok_d, ok_o, argSl_d, argSl_o, argSl_b, items_l, items_t, items_s, rds, rdF, stOk_eq, ncO_some, nc_v, nc_own, nc_no, stOks, setAll, wG, mutAt, putAt, Sl.mu, Sl.put, argSls, noB, fewB, putB, endP, cellsOf, cellF, List.getElem?_cons_zero, List.getElem?_cons_succ, List.getElem?_nil, List.set_cons_zero, List.set_cons_succ, List.append_eq, List.nil_append, List.cons_append, List.replicate, List.take_succ_cons, List.take_zero, List.take_nil, List.filterMap_cons, List.filterMap_nil, Option.map_some, Option.map_none, List.length_cons, List.length_nil, F_add_i, F_add_s, F_add_l, F_add_t, F_int, F_cmp_i, F_cmp_s, F_in_l, F_in_t, F_in_s, F_ix_l, F_ix_t, F_ix_s, F_sl_l, F_sl_t, F_sl_s, F_len_l, F_len_t, F_len_s, F_toInt, F_toStr, F_toTup_l, F_toTup_t, F_toLst_l, F_toLst_t, F_all, F_any, F_split, F_join_l, F_join_t, F_part, F_start, F_end, F_strip, F_sorted_l, F_sorted_t, N_none, N_str, N_int, N_bool, N_tup, N_lst, S_str, S_none, S_int, S_bool, S_tup, S_lst, I_str, I_none, I_int, I_bool, I_tup, I_lst, B_str, B_none, B_int, B_bool, B_tup, B_lst, T_str, T_none, T_int, T_bool, T_tup, T_lst, L_str, L_none, L_int, L_bool, L_tup, L_lst, D_str, D_none, D_int, D_bool, D_tup, D_lst, N_dic, S_dic, I_dic, B_dic, T_dic, L_dic, D_dic, E_ss, E_ii, E_bb, E_ns, E_is, E_bs, E_nn, isA_str, isA_int, isA_bool, isA_tuple, isA_list, isA_dict, fEq, fNe, fIsN, fNotN, eqv_str, eqv_int, eqv_bool, exists_eq_left', exists_eq_left, exists_and_left, R.d.injEq, R.o.injEq, PyData.bool.injEq, PyData.str.injEq, PyData.int.injEq, PyData.tuple.injEq, PyData.list.injEq, List.cons.injEq, Option.some.injEq, and_true, true_and, and_self, Bool.not_true, Bool.not_false, Bool.false_eq_true, Bool.true_eq_false, Bool.true_and, Bool.false_and, Bool.true_or, Bool.false_or, if_true, if_false, reduceIte, reduceCtorEq, not_false_eq_true, ne_eq, true_or, or_true, false_or, or_false, List.map_nil, List.map_cons, Option.toList_some, Option.toList_none, false_and, and_false, Bool.not_eq_true, Bool.or_false, Bool.or_true, Bool.and_true, Bool.and_false, List.length_map, List.length_append]
        have h := h (newK k) (newK_it k hk) hg
        have el : (trialsV items (newK k)).map optT = PyData.none :: .tuple [] :: (items.map (fun i => PyData.tuple [.str i]) ++ [.tuple [.str (newK k)]]) := by
          simp [trialsV, optT]
        rw [el] at h
        refine ⟨Nat.le_trans (show _ ≤ 1000 from by omega) (by decide), by decide, by decide, Nat.le_trans (show _ ≤ 1000 from by omega) (by decide), ?_⟩
        exact h

def w__law_random_meaning_1 : WS := (wIfS (wOrT (wB (wBin fNe (wBor 4) (wC (PyData.str "lock")))) (wB (wBin fEq (wCall (fs__law_take) (wCons (wVar 0) (wCons (wBor 1) (wCons (wC (PyData.int 3)) wNil)))) (wC (PyData.int 0))))) (wSet (wCall (fs__law_after) (wCons (wVar 2) (wCons (wCall (fs__law_single) (wCons (wVar 4) (wCons (wCall (fs__law_items_for) (wCons (wVar 0) (wCons (wBor 1) (wCons (wVar 4) wNil)))) wNil))) wNil))) 2) wNext)
def w__law_random_meaning_2 : WS := (wSeq (wSet (wCall (fs__law_word) (wCons (wVar 0) (wCons (wBor 1) wNil))) 4) w__law_random_meaning_1)
def w__law_random_meaning_3 : WS := (wRet (wTake 2))
def w__law_random_meaning_4 : WS := (wSeq (wFor (wRng1 (wCons (wCall (fs__law_take) (wCons (wVar 0) (wCons (wBor 1) (wCons (wC (PyData.int 5)) wNil)))) wNil)) (.n 3) w__law_random_meaning_2) w__law_random_meaning_3)
def w__law_random_meaning : WS := (wSeq (wSet (wTup (wCons (wC (PyData.str "around")) (wCons (wTup wNil) (wCons (wTup wNil) (wCons (wTup wNil) (wCons (wC PyData.none) (wCons (wC (PyData.bool false)) wNil))))))) 2) w__law_random_meaning_4)

/-- a meaning of at most four statements -/
def fs__law_random_meaning : FS := fun as Q _ => ∃ (row : List Int) (k : Int), as = [.v (.list (row.map .int)), .cell [.int k]] ∧ 0 < row.length ∧ 0 ≤ k ∧ ∀ (m : Mng) (k' : Int), 0 ≤ k' → m.Ok 12 → Q (.d m.d) [[.int k']]
theorem l__law_random_meaning : ∀ as Q X, fs__law_random_meaning as Q X → as.length = 2 := by rintro as Q X ⟨_, _, rfl, _⟩; rfl
theorem m__law_random_meaning : ∀ as Q X, fs__law_random_meaning as Q X → w__law_random_meaning (as ++ List.replicate 3 Sl.no) (endP 2 Q X) := by
  rintro as Q X ⟨row, k, rfl, hr, hk, h⟩
  simp only [w__law_random_meaning, w__law_random_meaning_4, fs__law_take, wSeq, wIfS, wRet, wRetN, wNext, wBreak, wCont, wNever, wSet, wAsg, wPar, wExpr, wFor, wApp, wPop, wSetIx, wVar, wBor, wTake, wC, wBin, wNil, wCons, wPrim, wCall, wTup, wLst, wSl, wNone, wSome, wM0, wM1, wB, wAndT, wOrT, wNotT, wAndV, wOrV, wNotV, wIf, wIsi, wIsi2, wNeg, wChain, wSortedSet, X_txl, X_txt, wIt, wIt.rdf, wRng1, wRng2, wLc, wYes, lcS, wipeG, backG, noMut, rd_d, rd_o, rd_b, rdf_d, rdf_o, fz_d, fz_o, fz_b, sl_d, sl_o, ok_d, ok_o, argSl_d, argSl_o, argSl_b, items_l, items_t, items_s, rds, rdF, stOk_eq, ncO_some, nc_v, nc_own, nc_no, stOks, setAll, wG, mutAt, putAt, Sl.mu, Sl.put, argSls, noB, fewB, putB, endP, cellsOf, cellF, List.getElem?_cons_zero, List.getElem?_cons_succ, List.getElem?_nil, List.set_cons_zero, List.set_cons_succ, List.append_eq, List.nil_append, List.cons_append, List.replicate, List.take_succ_cons, List.take_zero, List.take_nil, List.filterMap_cons, List.filterMap_nil, Option.map_some, Option.map_none, List.length_cons, List.length_nil, F_add_i, F_add_s, F_add_l, F_add_t, F_int, F_cmp_i, F_cmp_s, F_in_l, F_in_t, F_in_s, F_ix_l, F_ix_t, F_ix_s, F_sl_l, F_sl_t, F_sl_s, F_len_l, F_len_t, F_len_s, F_toInt, F_toStr, F_toTup_l, F_toTup_t, F_toLst_l, F_toLst_t, F_all, F_any, F_split, F_join_l, F_join_t, F_part, F_start, F_end, F_strip, F_sorted_l, F_sorted_t, N_none, N_str, N_int, N_bool, N_tup, N_lst, S_str, S_none, S_int, S_bool, S_tup, S_lst, I_str, I_none, I_int, I_bool, I_tup, I_lst, B_str, B_none, B_int, B_bool, B_tup, B_lst, T_str, T_none, T_int, T_bool, T_tup, T_lst, L_str, L_none, L_int, L_bool, L_tup, L_lst, D_str, D_none, D_int, D_bool, D_tup, D_lst, N_dic, S_dic, I_dic, B_dic, T_dic, L_dic, D_dic, E_ss, E_ii, E_bb, E_ns, E_is, E_bs, E_nn, isA_str, isA_int, isA_bool, isA_tuple, isA_list, isA_dict, fEq, fNe, fIsN, fNotN, eqv_str, eqv_int, eqv_bool, exists_eq_left', exists_eq_left, exists_and_left, R.d.injEq, R.o.injEq, PyData.bool.injEq, PyData.str.injEq, PyData.int.injEq, PyData.tuple.injEq, PyData.list.injEq, List.cons.injEq, Option.some.injEq, and_true, true_and, and_self, Bool.not_true, Bool.not_false, Bool.false_eq_true, Bool.true_eq_false, Bool.true_and, Bool.false_and, Bool.true_or, Bool.false_or, if_true, if_false, reduceIte, reduceCtorEq, not_false_eq_true, ne_eq, true_or, or_true, false_or, or_false, List.map_nil, List.map_cons, Option.toList_some, Option.toList_none, false_and, and_false, Bool.not_eq_true, Bool.or_false, Bool.or_true, Bool.and_true, Bool.and_false]
  (repeat refine ⟨by decide, ?_⟩)
  refine ⟨row, k, _, ⟨rfl, rfl, rfl⟩, hr, hk, by decide, fun r h0 h1 => ?_⟩
  refine ⟨⟨by omega, by omega⟩, ?_⟩
  refine forI_E (List.range r.toNat) (fun (i : Nat) => .int (0 + i)) (fun pre Γ => ∃ (m : Mng) (j : Int) (e1 e2 : Sl), Γ = [.v (.list (row.map .int)), .cell [.int j], .v m.d, e1, e2] ∧ nc e1 ∧ nc e2 ∧ 0 ≤ j ∧ m.Ok (3 * pre.length)) (by rw [rangeL_map]) ⟨Mng.nothing, k + 1, _, _, rfl, trivial, trivial, by omega, Mng.ok_nothing⟩ ?_ ?_
  · rintro pre x post _ q ⟨m, j, e1, e2, rfl, n1, n2, hj, hm⟩ N hN
    have hp : pre.length < 4 := by
      have := congrArg List.length q
      simp only [List.length_range, List.length_append, List.length_cons] at this
      omega
    simp only [w__law_random_meaning_2, fs__law_word, wSeq, wIfS, wRet, wRetN, wNext, wBreak, wCont, wNever, wSet, wAsg, wPar, wExpr, wFor, wApp, wPop, wSetIx, wVar, wBor, wTake, wC, wBin, wNil, wCons, wPrim, wCall, wTup, wLst, wSl, wNone, wSome, wM0, wM1, wB, wAndT, wOrT, wNotT, wAndV, wOrV, wNotV, wIf, wIsi, wIsi2, wNeg, wChain, wSortedSet, X_txl, X_txt, wIt, wIt.rdf, wRng1, wRng2, wLc, wYes, lcS, wipeG, backG, noMut, rd_d, rd_o, rd_b, rdf_d, rdf_o, fz_d, fz_o, fz_b, sl_d, sl_o, ok_d, ok_o, argSl_d, argSl_o, argSl_b, items_l, items_t, items_s, rds, rdF, stOk_eq, ncO_some, nc_v, nc_own, nc_no, stOks, setAll, wG, mutAt, putAt, Sl.mu, Sl.put, argSls, noB, fewB, putB, endP, cellsOf, cellF, List.getElem?_cons_zero, List.getElem?_cons_succ, List.getElem?_nil, List.set_cons_zero, List.set_cons_succ, List.append_eq, List.nil_append, List.cons_append, List.replicate, List.take_succ_cons, List.take_zero, List.take_nil, List.filterMap_cons, List.filterMap_nil, Option.map_some, Option.map_none, List.length_cons, List.length_nil, F_add_i, F_add_s, F_add_l, F_add_t, F_int, F_cmp_i, F_cmp_s, F_in_l, F_in_t, F_in_s, F_ix_l, F_ix_t, F_ix_s, F_sl_l, F_sl_t, F_sl_s, F_len_l, F_len_t, F_len_s, F_toInt, F_toStr, F_toTup_l, F_toTup_t, F_toLst_l, F_toLst_t, F_all, F_any, F_split, F_join_l, F_join_t, F_part, F_start, F_end, F_strip, F_sorted_l, F_sorted_t, N_none, N_str, N_int, N_bool, N_tup, N_lst, S_str, S_none, S_int, S_bool, S_tup, S_lst, I_str, I_none, I_int, I_bool, I_tup, I_lst, B_str, B_none, B_int, B_bool, B_tup, B_lst, T_str, T_none, T_int, T_bool, T_tup, T_lst, L_str, L_none, L_int, L_bool, L_tup, L_lst, D_str, D_none, D_int, D_bool, D_tup, D_lst, N_dic, S_dic, I_dic, B_dic, T_dic, L_dic, D_dic, E_ss, E_ii, E_bb, E_ns, E_is, E_bs, E_nn, isA_str, isA_int, isA_bool, isA_tuple, isA_list, isA_dict, fEq, fNe, fIsN, fNotN, eqv_str, eqv_int, eqv_bool, exists_eq_left', exists_eq_left, exists_and_left, R.d.injEq, R.o.injEq, PyData.bool.injEq, PyData.str.injEq, PyData.int.injEq, PyData.tuple.injEq, PyData.list.injEq, List.cons.injEq, Option.some.injEq, and_true, true_and, and_self, Bool.not_true, Bool.not_false, Bool.false_eq_true, Bool.true_eq_false, Bool.true_and, Bool.false_and, Bool.true_or, Bool.false_or, if_true, if_false, reduceIte, reduceCtorEq, not_false_eq_true, ne_eq, true_or, or_true, false_or, or_false, List.map_nil, List.map_cons, Option.toList_some, Option.toList_none, false_and, and_false, Bool.not_eq_true, Bool.or_false, Bool.or_true, Bool.and_true, Bool.and_false, n1]
    refine ⟨row, j, ⟨rfl, rfl⟩, hr, hj, fun w j2 hj2 hw => ?_⟩
    simp only [w__law_random_meaning_1, fs__law_take, wSeq, wIfS, wRet, wRetN, wNext, wBreak, wCont, wNever, wSet, wAsg, wPar, wExpr, wFor, wApp, wPop, wSetIx, wVar, wBor, wTake, wC, wBin, wNil, wCons, wPrim, wCall, wTup, wLst, wSl, wNone, wSome, wM0, wM1, wB, wAndT, wOrT, wNotT, wAndV, wOrV, wNotV, wIf, wIsi, wIsi2, wNeg, wChain, wSortedSet, X_txl, X_txt, wIt, wIt.rdf, wRng1, wRng2, wLc, wYes, lcS, wipeG, backG, noMut, rd_d, rd_o, rd_b, rdf_d, rdf_o, fz_d, fz_o, fz_b, sl_d, sl_o, ok_d, ok_o, argSl_d, argSl_o, argSl_b, items_l, items_t, items_s, rds, rdF, stOk_eq, ncO_some, nc_v, nc_own, nc_no, stOks, setAll, wG, mutAt, putAt, Sl.mu, Sl.put, argSls, noB, fewB, putB, endP, cellsOf, cellF, List.getElem?_cons_zero, List.getElem?_cons_succ, List.getElem?_nil, List.set_cons_zero, List.set_cons_succ, List.append_eq, List.nil_append, List.cons_append, List.replicate, List.take_succ_cons, List.take_zero, List.take_nil, List.filterMap_cons, List.filterMap_nil, Option.map_some, Option.map_none, List.length_cons, List.length_nil, F_add_i, F_add_s, F_add_l, F_add_t, F_int, F_cmp_i, F_cmp_s, F_in_l, F_in_t, F_in_s, F_ix_l, F_ix_t, F_ix_s, F_sl_l, F_sl_t, F_sl_s, F_len_l, F_len_t, F_len_s, F_toInt, F_toStr, F_toTup_l, F_toTup_t, F_toLst_l, F_toLst_t, F_all, F_any, F_split, F_join_l, F_join_t, F_part, F_start, F_end, F_strip, F_sorted_l, F_sorted_t, N_none, N_str, N_int, N_bool, N_tup, N_lst, S_str, S_none, S_int, S_bool, S_tup, S_lst, I_str, I_none, I_int, I_bool, I_tup, I_lst, B_str, B_none, B_int, B_bool, B_tup, B_lst, T_str, T_none, T_int, T_bool, T_tup, T_lst, L_str, L_none, L_int, L_bool, L_tup, L_lst, D_str, D_none, D_int, D_bool, D_tup, D_lst, N_dic, S_dic, I_dic, B_dic, T_dic, L_dic, D_dic, E_ss, E_ii, E_bb, E_ns, E_is, E_bs, E_nn, isA_str, isA_int, isA_bool, isA_tuple, isA_list, isA_dict, fEq, fNe, fIsN, fNotN, eqv_str, eqv_int, eqv_bool, exists_eq_left', exists_eq_left, exists_and_left, R.d.injEq, R.o.injEq, PyData.bool.injEq, PyData.str.injEq, PyData.int.injEq, PyData.tuple.injEq, PyData.list.injEq, List.cons.injEq, Option.some.injEq, and_true, true_and, and_self, Bool.not_true, Bool.not_false, Bool.false_eq_true, Bool.true_eq_false, Bool.true_and, Bool.false_and, Bool.true_or, Bool.false_or, if_true, if_false, reduceIte, reduceCtorEq, not_false_eq_true, ne_eq, true_or, or_true, false_or, or_false, List.map_nil, List.map_cons, Option.toList_some, Option.toList_none, false_and, and_false, Bool.not_eq_true, Bool.or_false, Bool.or_true, Bool.and_true, Bool.and_false, n2]
    have fin : ∀ (xs : List Str) (j4 : Int), 0 ≤ j4 → xs.length ≤ 3 → (∀ s ∈ xs, isIt s) → N [.v (.list (row.map .int)), .cell [.int j4], .v (m.after (.single w xs)).d, .v (.int (0 + (x : Int))), .v (.str w)] := fun xs j4 hj4 hl hi =>
      hN _ ⟨_, j4, _, _, rfl, trivial, trivial, hj4, (Mng.ok_after hm (Mng.ok_single w hi)).mono (by simp only [List.length_append, List.length_singleton]; omega)⟩
    have len3 : ∀ xs, fitsWord w xs → xs.length ≤ 3 := fun xs hf => by
      unfold fitsWord at hf
      split at hf
      · rw [hf]; simp
      · exact hf.1
    split
    · simp only [fs__law_items_for, fs__law_single, fs__law_after, wSeq, wIfS, wRet, wRetN, wNext, wBreak, wCont, wNever, wSet, wAsg, wPar, wExpr, wFor, wApp, wPop, wSetIx, wVar, wBor, wTake, wC, wBin, wNil, wCons, wPrim, wCall, wTup, wLst, wSl, wNone, wSome, wM0, wM1, wB, wAndT, wOrT, wNotT, wAndV, wOrV, wNotV, wIf, wIsi, wIsi2, wNeg, wChain, wSortedSet, X_txl, X_txt, wIt, wIt.rdf, wRng1, wRng2, wLc, wYes, lcS, wipeG, backG, noMut, rd_d, rd_o, rd_b, rdf_d, rdf_o, fz_d, fz_o, fz_b, sl_d, sl_o, ok_d, ok_o, argSl_d, argSl_o, argSl_b, items_l, items_t, items_s, rds, rdF, stOk_eq, ncO_some, nc_v, nc_own, nc_no, stOks, setAll, wG, mutAt, putAt, Sl.mu, Sl.put, argSls, noB, fewB, putB, endP, cellsOf, cellF, List.getElem?_cons_zero, List.getElem?_cons_succ, List.getElem?_nil, List.set_cons_zero, List.set_cons_succ, List.append_eq, List.nil_append, List.cons_append, List.replicate, List.take_succ_cons, List.take_zero, List.take_nil, List.filterMap_cons, List.filterMap_nil, Option.map_some, Option.map_none, List.length_cons, List.length_nil, F_add_i, F_add_s, F_add_l, F_add_t, F_int, F_cmp_i, F_cmp_s, F_in_l, F_in_t, F_in_s, F_ix_l, F_ix_t, F_ix_s, F_sl_l, F_sl_t, F_sl_s, F_len_l, F_len_t, F_len_s, F_toInt, F_toStr, F_toTup_l, F_toTup_t, F_toLst_l, F_toLst_t, F_all, F_any, F_split, F_join_l, F_join_t, F_part, F_start, F_end, F_strip, F_sorted_l, F_sorted_t, N_none, N_str, N_int, N_bool, N_tup, N_lst, S_str, S_none, S_int, S_bool, S_tup, S_lst, I_str, I_none, I_int, I_bool, I_tup, I_lst, B_str, B_none, B_int, B_bool, B_tup, B_lst, T_str, T_none, T_int, T_bool, T_tup, T_lst, L_str, L_none, L_int, L_bool, L_tup, L_lst, D_str, D_none, D_int, D_bool, D_tup, D_lst, N_dic, S_dic, I_dic, B_dic, T_dic, L_dic, D_dic, E_ss, E_ii, E_bb, E_ns, E_is, E_bs, E_nn, isA_str, isA_int, isA_bool, isA_tuple, isA_list, isA_dict, fEq, fNe, fIsN, fNotN, eqv_str, eqv_int, eqv_bool, exists_eq_left', exists_eq_left, exists_and_left, R.d.injEq, R.o.injEq, PyData.bool.injEq, PyData.str.injEq, PyData.int.injEq, PyData.tuple.injEq, PyData.list.injEq, List.cons.injEq, Option.some.injEq, and_true, true_and, and_self, Bool.not_true, Bool.not_false, Bool.false_eq_true, Bool.true_eq_false, Bool.true_and, Bool.false_and, Bool.true_or, Bool.false_or, if_true, if_false, reduceIte, reduceCtorEq, not_false_eq_true, ne_eq, true_or, or_true, false_or, or_false, List.map_nil, List.map_cons, Option.toList_some, Option.toList_none, false_and, and_false, Bool.not_eq_true, Bool.or_false, Bool.or_true, Bool.and_true, Bool.and_false]
      refine ⟨row, j2, w, ⟨rfl, rfl, rfl⟩, hr, hj2, fun xs j4 hj4 hf hi => ?_⟩
      have l3 := len3 xs hf
      exact ⟨w, xs, ⟨rfl, rfl⟩, by omega, m, _, ⟨rfl, rfl⟩, _, hm, _, Mng.ok_single w hi, by omega, fin xs j4 hj4 l3 hi⟩
    · refine ⟨row, j2, _, ⟨rfl, rfl, rfl⟩, hr, hj2, by decide, fun r0 h00 h01 => ?_⟩
      split
      · simp only [fs__law_items_for, fs__law_single, fs__law_after, wSeq, wIfS, wRet, wRetN, wNext, wBreak, wCont, wNever, wSet, wAsg, wPar, wExpr, wFor, wApp, wPop, wSetIx, wVar, wBor, wTake, wC, wBin, wNil, wCons, wPrim, wCall, wTup, wLst, wSl, wNone, wSome, wM0, wM1, wB, wAndT, wOrT, wNotT, wAndV, wOrV, wNotV, wIf, wIsi, wIsi2, wNeg, wChain, wSortedSet, X_txl, X_txt, wIt, wIt.rdf, wRng1, wRng2, wLc, wYes, lcS, wipeG, backG, noMut, rd_d, rd_o, rd_b, rdf_d, rdf_o, fz_d, fz_o, fz_b, sl_d, sl_o, ok_d, ok_o, argSl_d, argSl_o, argSl_b, items_l, items_t, items_s, rds, rdF, stOk_eq, ncO_some, nc_v, nc_own, nc_no, stOks, setAll, wG, mutAt, putAt, Sl.mu, Sl.put, argSls, noB, fewB, putB, endP, cellsOf, cellF, List.getElem?_cons_zero, List.getElem?_cons_succ, List.getElem?_nil, List.set_cons_zero, List.set_cons_succ, List.append_eq, List.nil_append, List.cons_append, List.replicate, List.take_succ_cons, List.take_zero, List.take_nil, List.filterMap_cons, List.filterMap_nil, Option.map_some, Option.map_none, List.length_cons, List.length_nil, F_add_i, F_add_s, F_add_l, F_add_t, F_int, F_cmp_i, F_cmp_s, F_in_l, F_in_t, F_in_s, F_ix_l, F_ix_t, F_ix_s, F_sl_l, F_sl_t, F_sl_s, F_len_l, F_len_t, F_len_s, F_toInt, F_toStr, F_toTup_l, F_toTup_t, F_toLst_l, F_toLst_t, F_all, F_any, F_split, F_join_l, F_join_t, F_part, F_start, F_end, F_strip, F_sorted_l, F_sorted_t, N_none, N_str, N_int, N_bool, N_tup, N_lst, S_str, S_none, S_int, S_bool, S_tup, S_lst, I_str, I_none, I_int, I_bool, I_tup, I_lst, B_str, B_none, B_int, B_bool, B_tup, B_lst, T_str, T_none, T_int, T_bool, T_tup, T_lst, L_str, L_none, L_int, L_bool, L_tup, L_lst, D_str, D_none, D_int, D_bool, D_tup, D_lst, N_dic, S_dic, I_dic, B_dic, T_dic, L_dic, D_dic, E_ss, E_ii, E_bb, E_ns, E_is, E_bs, E_nn, isA_str, isA_int, isA_bool, isA_tuple, isA_list, isA_dict, fEq, fNe, fIsN, fNotN, eqv_str, eqv_int, eqv_bool, exists_eq_left', exists_eq_left, exists_and_left, R.d.injEq, R.o.injEq, PyData.bool.injEq, PyData.str.injEq, PyData.int.injEq, PyData.tuple.injEq, PyData.list.injEq, List.cons.injEq, Option.some.injEq, and_true, true_and, and_self, Bool.not_true, Bool.not_false, Bool.false_eq_true, Bool.true_eq_false, Bool.true_and, Bool.false_and, Bool.true_or, Bool.false_or, if_true, if_false, reduceIte, reduceCtorEq, not_false_eq_true, ne_eq, true_or, or_true, false_or, or_false, List.map_nil, List.map_cons, Option.toList_some, Option.toList_none, false_and, and_false, Bool.not_eq_true, Bool.or_false, Bool.or_true, Bool.and_true, Bool.and_false]
        refine ⟨row, _, w, ⟨rfl, rfl, rfl⟩, hr, by omega, fun xs j4 hj4 hf hi => ?_⟩
        have l3 := len3 xs hf
        exact ⟨w, xs, ⟨rfl, rfl⟩, by omega, m, _, ⟨rfl, rfl⟩, _, hm, _, Mng.ok_single w hi, by omega, fin xs j4 hj4 l3 hi⟩
      · exact hN _ ⟨m, _, _, _, rfl, trivial, trivial, by omega, hm.mono (by simp only [List.length_append, List.length_singleton]; omega)⟩
  · rintro _ ⟨m, j, e1, e2, rfl, n1, n2, hj, hm⟩
    simp only [w__law_random_meaning_3, wSeq, wIfS, wRet, wRetN, wNext, wBreak, wCont, wNever, wSet, wAsg, wPar, wExpr, wFor, wApp, wPop, wSetIx, wVar, wBor, wTake, wC, wBin, wNil, wCons, wPrim, wCall, wTup, wLst, wSl, wNone, wSome, wM0, wM1, wB, wAndT, wOrT, wNotT, wAndV, wOrV, wNotV, wIf, wIsi, wIsi2, wNeg, wChain, wSortedSet, X_txl, X_txt, wIt, wIt.rdf, wRng1, wRng2, wLc, wYes, lcS, wipeG, backG, noMut, rd_d, rd_o, rd_b, rdf_d, rdf_o, fz_d, fz_o, fz_b, sl_d, sl_o, ok_d, ok_o, argSl_d, argSl_o, argSl_b, items_l, items_t, items_s, rds, rdF, stOk_eq, ncO_some, nc_v, nc_own, nc_no, stOks, setAll, wG, mutAt, putAt, Sl.mu, Sl.put, argSls, noB, fewB, putB, endP, cellsOf, cellF, List.getElem?_cons_zero, List.getElem?_cons_succ, List.getElem?_nil, List.set_cons_zero, List.set_cons_succ, List.append_eq, List.nil_append, List.cons_append, List.replicate, List.take_succ_cons, List.take_zero, List.take_nil, List.filterMap_cons, List.filterMap_nil, Option.map_some, Option.map_none, List.length_cons, List.length_nil, F_add_i, F_add_s, F_add_l, F_add_t, F_int, F_cmp_i, F_cmp_s, F_in_l, F_in_t, F_in_s, F_ix_l, F_ix_t, F_ix_s, F_sl_l, F_sl_t, F_sl_s, F_len_l, F_len_t, F_len_s, F_toInt, F_toStr, F_toTup_l, F_toTup_t, F_toLst_l, F_toLst_t, F_all, F_any, F_split, F_join_l, F_join_t, F_part, F_start, F_end, F_strip, F_sorted_l, F_sorted_t, N_none, N_str, N_int, N_bool, N_tup, N_lst, S_str, S_none, S_int, S_bool, S_tup, S_lst, I_str, I_none, I_int, I_bool, I_tup, I_lst, B_str, B_none, B_int, B_bool, B_tup, B_lst, T_str, T_none, T_int, T_bool, T_tup, T_lst, L_str, L_none, L_int, L_bool, L_tup, L_lst, D_str, D_none, D_int, D_bool, D_tup, D_lst, N_dic, S_dic, I_dic, B_dic, T_dic, L_dic, D_dic, E_ss, E_ii, E_bb, E_ns, E_is, E_bs, E_nn, isA_str, isA_int, isA_bool, isA_tuple, isA_list, isA_dict, fEq, fNe, fIsN, fNotN, eqv_str, eqv_int, eqv_bool, exists_eq_left', exists_eq_left, exists_and_left, R.d.injEq, R.o.injEq, PyData.bool.injEq, PyData.str.injEq, PyData.int.injEq, PyData.tuple.injEq, PyData.list.injEq, List.cons.injEq, Option.some.injEq, and_true, true_and, and_self, Bool.not_true, Bool.not_false, Bool.false_eq_true, Bool.true_eq_false, Bool.true_and, Bool.false_and, Bool.true_or, Bool.false_or, if_true, if_false, reduceIte, reduceCtorEq, not_false_eq_true, ne_eq, true_or, or_true, false_or, or_false, List.map_nil, List.map_cons, Option.toList_some, Option.toList_none, false_and, and_false, Bool.not_eq_true, Bool.or_false, Bool.or_true, Bool.and_true, Bool.and_false]
    refine h m j hj (hm.mono ?_)
    rw [List.length_range]
    omega

mutual
def looseD (t : Int) : PyData → PyData
  | .tuple l => if t % 2 == 0 then .list (looseL (t + 1) l) else .tuple (looseL (t + 1) l)
  | .none => .none
  | .bool b => .bool b
  | .int i => .int i
  | .str s => .str s
  | .list l => .list l
  | .dict l => .dict l
def looseL (t : Int) : List PyData → List PyData
  | [] => []
  | x :: xs => looseD t x :: looseL t xs
end
theorem looseL_map (t : Int) : ∀ l : List PyData, looseL t l = l.map (looseD t)
  | [] => by simp [looseL]
  | x :: xs => by simp only [looseL, List.map_cons, looseL_map t xs]

mutual
def noL : PyData → Bool
  | .list _ => false
  | .dict _ => false
  | .tuple l => noLs l
  | _ => true
def noLs : List PyData → Bool
  | [] => true
  | x :: xs => noL x && noLs xs
end
theorem noLs_iff : ∀ {l : List PyData}, noLs l = true ↔ ∀ x ∈ l, noL x = true
  | [] => by simp [noLs]
  | x :: xs => by simp [noLs, noLs_iff (l := xs)]
theorem noL_tup {l : List PyData} (h : noL (.tuple l) = true) : ∀ x ∈ l, noL x = true := noLs_iff.mp (by simpa [noL] using h)
theorem tup_noL {l : List PyData} (h : ∀ x ∈ l, noL x = true) : noL (.tuple l) = true := by simp only [noL]; exact noLs_iff.mpr h
theorem noL_txs (xs : List Str) : noL (.tuple (txs xs)) = true := tup_noL fun d hd => by
  obtain ⟨s, _, rfl⟩ := List.mem_map.mp hd
  rfl
theorem eqvAll_txs : ∀ a b : List Str, PyData.eqvAll (txs a) (txs b) = decide (a = b)
  | [], [] => by simp [PyData.eqvAll]
  | [], y :: b => by simp [PyData.eqvAll]
  | x :: a, [] => by simp [PyData.eqvAll]
  | x :: a, y :: b => by
    simp only [txs, List.map_cons, PyData.eqvAll, eqv_str]
    have ih := eqvAll_txs a b
    simp only [txs] at ih
    rw [ih, Bool.eq_iff_iff]
    simp
theorem eqv_tup (a b : List PyData) : PyData.eqv (.tuple a) (.tuple b) = PyData.eqvAll a b := by simp [PyData.eqv]
theorem rise_step {ss : List Str} (h : ∀ k, k + 1 < ss.length → sLt (ss.getD k "") (ss.getD (k + 1) "")) : Rise ss := by
  induction ss with
  | nil => exact .nil
  | cons a r ih =>
    have ihr := ih fun k hk => by
      have := h (k + 1) (by simpa using hk)
      simpa using this
    refine List.pairwise_cons.mpr ⟨fun b hb => ?_, ihr⟩
    cases r with
    | nil => cases hb
    | cons c r =>
      have h0 : sLt a c := by simpa using h 0 (by simp)
      rcases List.mem_cons.mp hb with rfl | hb
      · exact h0
      · exact sLt_trans h0 ((List.pairwise_cons.mp ihr).1 b hb)
theorem riseF_iff (ss : List Str) : riseF ss = ss ↔ Rise ss := ⟨fun e => by rw [← e]; exact rise_riseF ss, riseF_id⟩
theorem risingD_txs (ss : List Str) : risingD (txs ss) = decide (riseF ss = ss) := by
  unfold risingD
  rw [Bool.eq_iff_iff, List.all_eq_true, decide_eq_true_eq, riseF_iff]
  simp only [List.mem_range, List.length_map]
  have g : ∀ k, k < ss.length → (txs ss).getD k .none = .str (ss.getD k "") := fun k hk => by simp [txs, List.getD, hk]
  constructor
  · intro h
    refine rise_step fun k hk => ?_
    have := h k (by omega)
    rw [g k (by omega), g (k + 1) hk] at this
    exact of_decide_eq_true this
  · intro h k hk
    rw [g k (by omega), g (k + 1) (by omega)]
    refine decide_eq_true ?_
    have h1 := List.pairwise_iff_getElem.mp h k (k + 1) (by omega) (by omega) (by omega)
    have e1 : ss.getD k "" = ss[k]'(by omega) := by simp [List.getD, show k < ss.length by omega]
    have e2 : ss.getD (k + 1) "" = ss[k + 1]'(by omega) := by simp [List.getD, show k + 1 < ss.length by omega]
    rw [e1, e2]
    exact h1

theorem len_looseL (t : Int) (l : List PyData) : (looseL t l).length = l.length := by rw [looseL_map]; simp
mutual
theorem ok_loose : ∀ (d : PyData) (t : Int), okD (looseD t d) = okD d
  | .tuple l, t => by
    have h := ok_looseL l (t + 1)
    have hl := len_looseL (t + 1) l
    simp only [looseD]
    split <;> simp only [okD, h, hl]
  | .none, t => by simp only [looseD]
  | .bool _, t => by simp only [looseD]
  | .int _, t => by simp only [looseD]
  | .str _, t => by simp only [looseD]
  | .list _, t => by simp only [looseD]
  | .dict _, t => by simp only [looseD]
theorem ok_looseL : ∀ (l : List PyData) (t : Int), okDs (looseL t l) = okDs l
  | [], t => by simp only [looseL]
  | x :: l, t => by simp only [looseL, okDs, ok_loose x t, ok_looseL l t]
end
mutual
theorem depth_loose : ∀ (d : PyData) (t : Int), (looseD t d).depth = d.depth
  | .tuple l, t => by
    have h := depth_looseL l (t + 1)
    simp only [looseD]
    split <;> simp only [PyData.depth, h]
  | .none, t => by simp only [looseD]
  | .bool _, t => by simp only [looseD]
  | .int _, t => by simp only [looseD]
  | .str _, t => by simp only [looseD]
  | .list _, t => by simp only [looseD]
  | .dict _, t => by simp only [looseD]
theorem depth_looseL : ∀ (l : List PyData) (t : Int), PyData.depthAll (looseL t l) = PyData.depthAll l
  | [], t => by simp only [looseL]
  | x :: l, t => by simp only [looseL, PyData.depthAll, depth_loose x t, depth_looseL l t]
end
theorem sd_loose {d : PyData} (h : sd d) (t : Int) : sd (looseD t d) := ⟨by rw [ok_loose]; exact h.1, by rw [depth_loose]; exact h.2⟩
theorem looseL_txs (t : Int) (xs : List Str) : looseL t (txs xs) = txs xs := by
  rw [looseL_map]
  simp [txs, looseD, Function.comp_def]
theorem areItems_loose (t : Int) {xs : List Str} (h : ∀ s ∈ xs, isIt s) : areItems (looseD t (.tuple (txs xs))) = true := by
  simp only [looseD, looseL_txs]
  split <;> exact areIt_all h
theorem seqL_loose (t : Int) (xs : List Str) : seqL (looseD t (.tuple (txs xs))) = txs xs := by
  simp only [looseD, looseL_txs]
  split <;> rfl
theorem isNone_loose (t : Int) (v : Option (List Str)) : isNone (looseD t (optT v)) = v.isNone := by
  cases v with
  | none => simp [optT, looseD, isNone]
  | some l =>
    simp only [optT, looseD]
    split <;> rfl
theorem isRow_looseT (t : Int) (l : List PyData) : isRow (looseD t (.tuple l)) = isRowL (looseL (t + 1) l) := by
  simp only [looseD]
  split <;> rfl
def Mng.l : Mng → List PyData
  | .c v b => [.str "const", optT v, .bool b]
  | .a bf dr bh df b => [.str "around", .tuple (txs bf), .tuple (txs dr), .tuple (txs bh), optT df, .bool b]
theorem Mng.d_l (m : Mng) : m.d = .tuple m.l := by cases m <;> rfl
theorem isRow_mng {n : Nat} {m : Mng} (h : m.Ok n) (t : Int) : isRow (looseD t m.d) = true := by
  rw [m.d_l, isRow_looseT]
  obtain ⟨h1, h2, h3⟩ := h
  cases m with
  | c v b =>
    simp only [Mng.l, looseL, looseD, isRowL, isBoolD, isStrD, isNone_loose]
    have e : PyData.eqv (.str (Str.ofString "const")) (.str "const") = true := by rw [eqv_str]; exact beq_self_eq_true _
    rw [e]
    cases v with
    | none => rfl
    | some l => simp only [optT]; rw [areItems_loose (xs := l) _ h1]; rfl
  | a bf dr bh df b =>
    simp only [Mng.items, List.mem_append] at h1
    simp only [Mng.l, looseL]
    rw [show looseD (t + 1) (.str (Str.ofString "around")) = .str "around" by simp [looseD], show looseD (t + 1) (.bool b) = .bool b by simp [looseD]]
    unfold isRowL
    dsimp only
    have e : PyData.eqv (.str (Str.ofString "around")) (.str "around") = true := by rw [eqv_str]; exact beq_self_eq_true _
    rw [e, areItems_loose _ (fun s hs => h1 s (.inl hs)), areItems_loose _ (fun s hs => h1 s (.inr (.inl hs))), areItems_loose _ (fun s hs => h1 s (.inr (.inr (.inl hs)))), seqL_loose, seqL_loose, seqL_loose, risingD_txs, riseF_id h3.1, isNone_loose]
    cases df with
    | none =>
      obtain ⟨rfl, rfl⟩ := h3.2 rfl
      simp [isBoolD, isStrD]
    | some d =>
      simp only [optT]
      rw [areItems_loose (xs := d) _ (fun s hs => h1 s (.inr (.inr (.inr hs))))]
      simp [isBoolD, isStrD]
theorem Mng.Ok.ok_l {n : Nat} {m : Mng} (h : m.Ok n) (hn : n ≤ 1000) : ∀ d ∈ m.l, okD d = true ∧ d.depth ≤ 1 ∧ noL d = true := by
  obtain ⟨h1, h2, h3⟩ := h
  have tup : ∀ xs : List Str, (∀ s ∈ xs, isIt s) → xs.length ≤ 1000 → okD (.tuple (txs xs)) = true ∧ (PyData.tuple (txs xs)).depth ≤ 1 ∧ noL (.tuple (txs xs)) = true := fun xs hx hl =>
    ⟨ok_tup (ok_txs hx) (by simp; omega), dp_tup (dp_txs xs), noL_txs xs⟩
  have opt : ∀ v : Option (List Str), (∀ s ∈ optL v, isIt s) → (optL v).length ≤ 1000 → okD (optT v) = true ∧ (optT v).depth ≤ 1 ∧ noL (optT v) = true := fun v hx hl => by
    cases v with
    | none => exact ⟨rfl, by decide, rfl⟩
    | some l => exact tup l hx hl
  intro d hd
  cases m with
  | c v b =>
    simp only [Mng.l, List.mem_cons, List.not_mem_nil, or_false] at hd
    rcases hd with rfl | rfl | rfl
    · exact ⟨by decide +kernel, by decide, rfl⟩
    · exact opt v h1 (by simp only [Mng.items] at h2; omega)
    · exact ⟨rfl, by simp [PyData.depth], rfl⟩
  | a bf dr bh df b =>
    simp only [Mng.items, List.mem_append, List.length_append] at h1 h2
    simp only [Mng.l, List.mem_cons, List.not_mem_nil, or_false] at hd
    rcases hd with rfl | rfl | rfl | rfl | rfl | rfl
    · exact ⟨by decide +kernel, by decide, rfl⟩
    · exact tup bf (fun s hs => h1 s (.inl hs)) (by omega)
    · exact tup dr (fun s hs => h1 s (.inr (.inl hs))) (by omega)
    · exact tup bh (fun s hs => h1 s (.inr (.inr (.inl hs)))) (by omega)
    · exact opt df (fun s hs => h1 s (.inr (.inr (.inr hs)))) (by omega)
    · exact ⟨rfl, by simp [PyData.depth], rfl⟩
theorem Mng.len_l (m : Mng) : m.l.length ≤ 6 ∧ 0 < m.l.length := by cases m <;> simp [Mng.l]
/-- tried data: sizes, depth, no lists -/
def tame (d : PyData) : Prop := okD d = true ∧ d.depth ≤ 2 ∧ noL d = true
theorem tame_tup {l : List PyData} (h : ∀ d ∈ l, okD d = true ∧ d.depth ≤ 1 ∧ noL d = true) (hl : l.length ≤ 1000) : tame (.tuple l) :=
  ⟨ok_tup (fun d hd => (h d hd).1) (by omega), dp_tup fun d hd => (h d hd).2.1, tup_noL fun d hd => (h d hd).2.2⟩
theorem tame_sd {d : PyData} (h : tame d) : sd d := ⟨h.1, Nat.le_trans h.2.1 (by decide)⟩

theorem isSeq_fro (d : PyData) : isSeq (frozenD d) = isSeq d := by cases d <;> simp [frozenD, isSeq]
theorem seqL_fro (d : PyData) : seqL (frozenD d) = (seqL d).map frozenD := by cases d <;> simp [frozenD, seqL, frozenL_map]
theorem isBoolD_fro (d : PyData) : isBoolD (frozenD d) = isBoolD d := by cases d <;> simp [frozenD, isBoolD]
theorem isStrD_fro (d : PyData) : isStrD (frozenD d) = isStrD d := by cases d <;> simp [frozenD, isStrD]
theorem isNone_fro (d : PyData) : isNone (frozenD d) = isNone d := by cases d <;> simp [frozenD, isNone]
theorem areItems_seq (d : PyData) : areItems d = (isSeq d && (seqL d).all isItemWord) := by cases d <;> simp [areItems, isSeq, seqL]
theorem areItems_fro (d : PyData) : areItems (frozenD d) = areItems d := by
  rw [areItems_seq, areItems_seq, isSeq_fro, seqL_fro, List.all_map]
  congr 1
  induction seqL d with
  | nil => rfl
  | cons x l ih => simp only [List.all_cons, ih, Function.comp_apply, isItemWord_fro]
theorem ltD_fro (a b : PyData) : ltD (frozenD a) (frozenD b) = ltD a b := by cases a <;> cases b <;> simp [frozenD, ltD]
theorem getD_fro (l : List PyData) (k : Nat) : (l.map frozenD).getD k .none = frozenD (l.getD k .none) := by
  simp only [List.getD, List.getElem?_map]
  cases l[k]? with
  | none => simp [frozenD]
  | some x => simp
theorem risingD_fro (l : List PyData) : risingD (l.map frozenD) = risingD l := by
  unfold risingD
  rw [List.length_map]
  congr 1
  funext k
  rw [getD_fro, getD_fro, ltD_fro]
theorem eqv_fro (d : PyData) (s : Str) (h : isStrD d = true) : PyData.eqv (frozenD d) (.str s) = PyData.eqv d (.str s) := by
  cases d with
  | str t => simp [frozenD]
  | _ => cases h
theorem isRowL_fro (l : List PyData) : isRowL (l.map frozenD) = isRowL l := by
  match l with
  | [] => rfl
  | [_] => rfl
  | [_, _] => rfl
  | [w, x, b] =>
    simp only [List.map_cons, List.map_nil, isRowL, isBoolD_fro, isStrD_fro, isNone_fro, areItems_fro]
    cases hw : isStrD w with
    | false => simp
    | true => rw [eqv_fro w _ hw]
  | [_, _, _, _] => rfl
  | [_, _, _, _, _] => rfl
  | [w, bf, dr, bh, df, b] =>
    simp only [List.map_cons, List.map_nil, isRowL, isBoolD_fro, isStrD_fro, isNone_fro, areItems_fro, seqL_fro, risingD_fro, List.length_map]
    cases hw : isStrD w with
    | false => simp
    | true => rw [eqv_fro w _ hw]
  | _ :: _ :: _ :: _ :: _ :: _ :: _ :: _ => rfl
theorem isRow_fro (d : PyData) : isRow (frozenD d) = isRow d := by
  unfold isRow
  rw [isSeq_fro, seqL_fro, isRowL_fro]
mutual
theorem fro_noL : ∀ d : PyData, noL d = true → frozenD d = d
  | .tuple l, h => by simp only [frozenD]; rw [fro_noLs l (by simpa only [noL] using h)]
  | .none, _ => by simp only [frozenD]
  | .bool _, _ => by simp only [frozenD]
  | .int _, _ => by simp only [frozenD]
  | .str _, _ => by simp only [frozenD]
  | .list _, h => by simp [noL] at h
  | .dict _, _ => by simp only [frozenD]
theorem fro_noLs : ∀ l : List PyData, noLs l = true → frozenL l = l
  | [], _ => by simp only [frozenL]
  | x :: l, h => by
    simp only [noLs, Bool.and_eq_true] at h
    simp only [frozenL, fro_noL x h.1, fro_noLs l h.2]
end
mutual
theorem fro_loose : ∀ (d : PyData) (t : Int), noL d = true → frozenD (looseD t d) = d
  | .tuple l, t, h => by
    have e := fro_looses l (t + 1) (by simpa only [noL] using h)
    simp only [looseD]
    split <;> simp only [frozenD, e]
  | .none, t, _ => by simp only [looseD, frozenD]
  | .bool _, t, _ => by simp only [looseD, frozenD]
  | .int _, t, _ => by simp only [looseD, frozenD]
  | .str _, t, _ => by simp only [looseD, frozenD]
  | .list _, t, h => by simp [noL] at h
  | .dict _, t, _ => by simp only [looseD, frozenD]
theorem fro_looses : ∀ (l : List PyData) (t : Int), noLs l = true → frozenL (looseL t l) = l
  | [], t, _ => by simp only [looseL, frozenL]
  | x :: l, t, h => by
    simp only [noLs, Bool.and_eq_true] at h
    simp only [looseL, frozenL, fro_loose x t h.1, fro_looses l t h.2]
end
mutual
theorem so_refl : ∀ d : PyData, noL d = true → soD d d = true
  | .tuple l, h => by simp only [soD]; exact so_refls l (by simpa only [noL] using h)
  | .none, _ => by simp only [soD]; rfl
  | .bool _, _ => by simp only [soD, beq_self_eq_true]
  | .int _, _ => by simp only [soD, beq_self_eq_true]
  | .str _, _ => by simp only [soD, beq_self_eq_true]
  | .list _, h => by simp [noL] at h
  | .dict _, h => by simp [noL] at h
theorem so_refls : ∀ l : List PyData, noLs l = true → soAll l l = true
  | [], _ => by simp [soAll]
  | x :: l, h => by
    simp only [noLs, Bool.and_eq_true] at h
    simp only [soAll, so_refl x h.1, so_refls l h.2, Bool.and_self]
end
theorem tame_m {n : Nat} {m : Mng} (h : m.Ok n) (hn : n ≤ 1000) : tame m.d := by
  rw [m.d_l]
  exact tame_tup (h.ok_l hn) (by have := m.len_l; omega)
theorem say_m {n : Nat} {m : Mng} (h : m.Ok n) (hn : n ≤ 1000) : sayM m.d m := by
  have ht := tame_m h hn
  refine ⟨tame_sd ht, Nat.lt_of_le_of_lt ht.2.1 (by decide), ?_, fro_noL _ ht.2.2⟩
  have := isRow_mng h 0
  rw [← isRow_fro, fro_loose _ _ ht.2.2] at this
  exact this
theorem say_loose {n : Nat} {m : Mng} (h : m.Ok n) (hn : n ≤ 1000) (t : Int) : sayM (looseD t m.d) m := by
  have ht := tame_m h hn
  exact ⟨sd_loose (tame_sd ht) t, by rw [depth_loose]; exact Nat.lt_of_le_of_lt ht.2.1 (by decide), isRow_mng h t, fro_loose _ _ ht.2.2⟩
theorem noL_tup2 {a b : PyData} (ha : noL a = true) (hb : noL b = true) : noL (.tuple [a, b]) = true := by simp only [noL, noLs, ha, hb, Bool.and_self]
theorem noL_opt (v : Option (List Str)) : noL (optT v) = true := by
  cases v with
  | none => rfl
  | some l => exact noL_txs l
theorem vb_ok {p : Option (List Str) × Bool} (hi : ∀ s ∈ optL p.1, isIt s) (hl : (optL p.1).length ≤ 1000) : (vbD p).depth < 12 ∧ okD (vbD p) = true ∧ noL (vbD p) = true := by
  obtain ⟨v, b⟩ := p
  refine ⟨?_, ?_, noL_tup2 (noL_opt v) rfl⟩
  · refine Nat.lt_of_le_of_lt (dp_tup (n := 1) fun d hd => ?_) (by decide)
    simp only [List.mem_cons, List.not_mem_nil, or_false] at hd
    rcases hd with rfl | rfl
    · cases v with
      | none => decide
      | some l => exact dp_tup (dp_txs l)
    · simp [PyData.depth]
  · refine ok_tup (fun d hd => ?_) (by simp)
    simp only [List.mem_cons, List.not_mem_nil, or_false] at hd
    rcases hd with rfl | rfl
    · cases v with
      | none => rfl
      | some l => exact ok_tup (ok_txs hi) (by simp only [optL] at hl; simp; omega)
    · rfl

theorem sayV_loose (t : Int) {v : Option (List Str)} (hi : ∀ s ∈ optL v, isIt s) : sayV (looseD t (optT v)) v := by
  cases v with
  | none => exact .inl ⟨rfl, by simp only [optT, looseD]⟩
  | some l =>
    refine .inr ⟨l, rfl, ?_, hi⟩
    simp only [optT, looseD, looseL_txs]
    split
    · exact .inr rfl
    · exact .inl rfl
theorem sayV_self {v : Option (List Str)} (hi : ∀ s ∈ optL v, isIt s) : sayV (optT v) v := by
  cases v with
  | none => exact .inl ⟨rfl, rfl⟩
  | some l => exact .inr ⟨l, rfl, .inl rfl, hi⟩
theorem opt_ok {v : Option (List Str)} (hi : ∀ s ∈ optL v, isIt s) (hl : (optL v).length ≤ 1000) : (optT v).depth ≤ 1 ∧ okD (optT v) = true := by
  cases v with
  | none => exact ⟨by decide, rfl⟩
  | some l => exact ⟨dp_tup (dp_txs l), ok_tup (ok_txs hi) (by simp only [optL] at hl; simp; omega)⟩
theorem cut_txs (xs : List Str) (lo hi : Option Int) : ∃ ys : List Str, cutL (txs xs) lo hi = txs ys ∧ ys.length ≤ xs.length ∧ ∀ s ∈ ys, s ∈ xs := by
  unfold cutL
  refine ⟨(xs.drop (HT.sIx (txs xs).length 0 lo)).take (HT.sIx (txs xs).length (txs xs).length hi - HT.sIx (txs xs).length 0 lo), ?_, ?_, fun s hs => List.mem_of_mem_drop (List.mem_of_mem_take hs)⟩
  · simp only [txs, List.map_take, List.map_drop]
  · simp only [List.length_take, List.length_drop]
    omega

mutual
/-- data of texts alone -/
def plD : PyData → Bool
  | .tuple l => plDs l
  | .none => true
  | .bool _ => true
  | .str _ => true
  | _ => false
def plDs : List PyData → Bool
  | [] => true
  | x :: l => plD x && plDs l
end
mutual
theorem eqv_pl : ∀ a b : PyData, plD a = true → plD b = true → (PyData.eqv a b = true ↔ a = b)
  | .tuple l, .tuple m, ha, hb => by
    simp only [plD] at ha hb
    simp only [PyData.eqv, eqv_pls l m ha hb, PyData.tuple.injEq]
  | .none, .none, _, _ => by simp [PyData.eqv]
  | .bool x, .bool y, _, _ => by simp [PyData.eqv]
  | .str x, .str y, _, _ => by simp [PyData.eqv]
  | .tuple _, .none, _, _ => by simp [PyData.eqv]
  | .tuple _, .bool _, _, _ => by simp [PyData.eqv]
  | .tuple _, .str _, _, _ => by simp [PyData.eqv]
  | .none, .tuple _, _, _ => by simp [PyData.eqv]
  | .none, .bool _, _, _ => by simp [PyData.eqv]
  | .none, .str _, _, _ => by simp [PyData.eqv]
  | .bool _, .tuple _, _, _ => by simp [PyData.eqv]
  | .bool _, .none, _, _ => by simp [PyData.eqv]
  | .bool _, .str _, _, _ => by simp [PyData.eqv]
  | .str _, .tuple _, _, _ => by simp [PyData.eqv]
  | .str _, .none, _, _ => by simp [PyData.eqv]
  | .str _, .bool _, _, _ => by simp [PyData.eqv]
  | .int _, _, ha, _ => by simp [plD] at ha
  | .list _, _, ha, _ => by simp [plD] at ha
  | .dict _, _, ha, _ => by simp [plD] at ha
  | .tuple _, .int _, _, hb => by simp [plD] at hb
  | .tuple _, .list _, _, hb => by simp [plD] at hb
  | .tuple _, .dict _, _, hb => by simp [plD] at hb
  | .none, .int _, _, hb => by simp [plD] at hb
  | .none, .list _, _, hb => by simp [plD] at hb
  | .none, .dict _, _, hb => by simp [plD] at hb
  | .bool _, .int _, _, hb => by simp [plD] at hb
  | .bool _, .list _, _, hb => by simp [plD] at hb
  | .bool _, .dict _, _, hb => by simp [plD] at hb
  | .str _, .int _, _, hb => by simp [plD] at hb
  | .str _, .list _, _, hb => by simp [plD] at hb
  | .str _, .dict _, _, hb => by simp [plD] at hb
theorem eqv_pls : ∀ a b : List PyData, plDs a = true → plDs b = true → (PyData.eqvAll a b = true ↔ a = b)
  | [], [], _, _ => by simp [PyData.eqvAll]
  | [], _ :: _, _, _ => by simp [PyData.eqvAll]
  | _ :: _, [], _, _ => by simp [PyData.eqvAll]
  | x :: a, y :: b, ha, hb => by
    simp only [plDs, Bool.and_eq_true] at ha hb
    simp only [PyData.eqvAll, Bool.and_eq_true, eqv_pl x y ha.1 hb.1, eqv_pls a b ha.2 hb.2, List.cons.injEq]
end
theorem plDs_iff : ∀ {l : List PyData}, (∀ x ∈ l, plD x = true) → plDs l = true
  | [], _ => rfl
  | x :: l, h => by
    simp only [plDs, Bool.and_eq_true]
    exact ⟨h x (by simp), plDs_iff fun y hy => h y (List.mem_cons_of_mem _ hy)⟩
theorem pl_tup {l : List PyData} (h : ∀ x ∈ l, plD x = true) : plD (.tuple l) = true := by simp only [plD]; exact plDs_iff h
theorem pl_txs (l : List Str) : plD (.tuple (txs l)) = true := pl_tup fun x hx => by
  obtain ⟨s, _, rfl⟩ := List.mem_map.mp hx
  rfl
theorem pl_opt (v : Option (List Str)) : plD (optT v) = true := by
  cases v with
  | none => rfl
  | some l => exact pl_txs l
theorem pl_vb (p : Option (List Str) × Bool) : plD (vbD p) = true := pl_tup fun x hx => by
  simp only [List.mem_cons, List.not_mem_nil, or_false] at hx
  rcases hx with rfl | rfl
  · exact pl_opt _
  · rfl
theorem pl_m (m : Mng) : plD m.d = true := by
  rw [m.d_l]
  refine pl_tup fun x hx => ?_
  cases m with
  | c v b =>
    simp only [Mng.l, List.mem_cons, List.not_mem_nil, or_false] at hx
    rcases hx with rfl | rfl | rfl
    · rfl
    · exact pl_opt _
    · rfl
  | a bf dr bh df b =>
    simp only [Mng.l, List.mem_cons, List.not_mem_nil, or_false] at hx
    rcases hx with rfl | rfl | rfl | rfl | rfl | rfl
    · rfl
    · exact pl_txs _
    · exact pl_txs _
    · exact pl_txs _
    · exact pl_opt _
    · rfl
theorem txs_inj {a b : List Str} (h : txs a = txs b) : a = b := by
  have e1 := strsD_map a
  have e2 := strsD_map b
  have h : a.map PyData.str = b.map PyData.str := h
  rw [h, e2] at e1
  exact (Option.some.inj e1).symm
theorem opt_inj {a b : Option (List Str)} (h : optT a = optT b) : a = b := by
  cases a <;> cases b <;> simp only [optT, PyData.tuple.injEq, reduceCtorEq] at h ⊢
  rw [txs_inj h]
theorem vb_inj {p q : Option (List Str) × Bool} : vbD p = vbD q ↔ p = q := by
  constructor
  · intro h
    simp only [vbD, PyData.tuple.injEq, List.cons.injEq, PyData.bool.injEq, and_true] at h
    exact Prod.ext (opt_inj h.1) h.2
  · rintro rfl; rfl
theorem m_inj {f s : Mng} : f.d = s.d ↔ f = s := by
  constructor
  · intro h
    cases f with
    | c v b =>
      cases s with
      | c v2 b2 =>
        simp only [Mng.d, PyData.tuple.injEq, List.cons.injEq, PyData.bool.injEq, and_true, true_and] at h
        rw [opt_inj h.1, h.2]
      | a _ _ _ _ _ => simp [Mng.d] at h
    | a bf dr bh df b =>
      cases s with
      | c _ _ => simp [Mng.d] at h
      | a bf2 dr2 bh2 df2 b2 =>
        simp only [Mng.d, PyData.tuple.injEq, List.cons.injEq, PyData.bool.injEq, and_true, true_and] at h
        obtain ⟨h1, h2, h3, h4, h5⟩ := h
        rw [txs_inj h1, txs_inj h2, txs_inj h3, opt_inj h4, h5]
  · rintro rfl; rfl
theorem mid_inj {x : Str} : ∀ {a b c d : List Str}, x ∉ a → x ∉ c → a ++ x :: b = c ++ x :: d → a = c ∧ b = d
  | [], b, [], d, _, _, h => ⟨rfl, by simpa using h⟩
  | [], b, y :: c, d, _, hc, h => by
    simp only [List.nil_append, List.cons_append, List.cons.injEq] at h
    exact absurd (by rw [← h.1]; simp) hc
  | y :: a, b, [], d, ha, _, h => by
    simp only [List.nil_append, List.cons_append, List.cons.injEq] at h
    exact absurd (by rw [h.1]; simp) ha
  | y :: a, b, z :: c, d, ha, hc, h => by
    simp only [List.cons_append, List.cons.injEq] at h
    obtain ⟨e1, e2⟩ := mid_inj (fun z => ha (List.mem_cons_of_mem _ z)) (fun z => hc (List.mem_cons_of_mem _ z)) h.2
    exact ⟨by rw [h.1, e1], e2⟩
/-- the trials tell meanings apart -/
theorem trials_tell {f s : Mng} (hf : f.fit) (hs : s.fit) {items : List Str} {fresh : Str} (h1 : ∀ x ∈ f.items, x ∈ items) (h2 : ∀ x ∈ s.items, x ∈ items) (hn : fresh ∉ items) (hl : f.locked = s.locked)
    (h : ∀ t ∈ trialsV items fresh, f.vb t = s.vb t) : f = s := by
  have t0 := h none (by simp [trialsV])
  have tf := h (some [fresh]) (by simp [trialsV])
  have ti : ∀ i ∈ items, f.vb (some [i]) = s.vb (some [i]) := fun i hi => h _ (by simp [trialsV, hi])
  have kf : ∀ g : List Str, (∀ x ∈ g, x ∈ items) → kept [fresh] g = [fresh] := fun g hg => by
    unfold kept
    have : fresh ∉ g := fun z => hn (hg _ z)
    simp [this]
  cases f with
  | c v b =>
    cases s with
    | c v2 b2 =>
      simp only [Mng.vb] at t0
      simp only [Mng.locked] at hl
      rw [t0, hl]
    | a bf dr bh df b2 =>
      exfalso
      simp only [Mng.items, List.mem_append] at h1 h2
      simp only [Mng.vb, kf dr fun x hx => h2 x (.inr (.inl hx))] at tf
      rw [tf] at h1
      exact hn (h1 fresh (by simp [optL]))
  | a bf dr bh df b =>
    cases s with
    | c v2 b2 =>
      exfalso
      simp only [Mng.items, List.mem_append] at h1 h2
      simp only [Mng.vb, kf dr fun x hx => h1 x (.inr (.inl hx))] at tf
      rw [← tf] at h2
      exact hn (h2 fresh (by simp [optL]))
    | a bf2 dr2 bh2 df2 b2 =>
      simp only [Mng.items, List.mem_append] at h1 h2
      simp only [Mng.locked] at hl
      subst hl
      simp only [Mng.vb, kf dr fun x hx => h1 x (.inr (.inl hx)), kf dr2 fun x hx => h2 x (.inr (.inl hx)), Option.some.injEq, List.append_assoc, List.singleton_append] at tf
      obtain ⟨e1, e2⟩ := mid_inj (fun z => hn (h1 _ (.inl z))) (fun z => hn (h2 _ (.inl z))) tf
      subst e1 e2
      have ed : dr = dr2 := rise_unique hf.1 hs.1 fun x => by
        have key : ∀ i ∈ items, (i ∈ dr ↔ i ∈ dr2) := fun i hi => by
          have := ti i hi
          simp only [Mng.vb, Option.some.injEq, List.append_assoc, List.append_cancel_left_eq, List.append_cancel_right_eq] at this
          by_cases q1 : i ∈ dr <;> by_cases q2 : i ∈ dr2 <;> simp [kept, q1, q2] at this ⊢
        constructor
        · exact fun hx => (key x (h1 x (.inr (.inl hx)))).mp hx
        · exact fun hx => (key x (h2 x (.inr (.inl hx)))).mpr hx
      subst ed
      have e4 : df = df2 := by
        simp only [Mng.vb] at t0
        cases df <;> cases df2 <;> simp at t0 ⊢
        exact t0
      rw [e4]
theorem its_vb {n : Nat} {m : Mng} (h : m.Ok n) {v : Option (List Str)} (hv : ∀ s ∈ optL v, isIt s) : (∀ s ∈ optL (m.vb v), isIt s) ∧ (optL (m.vb v)).length ≤ n + (optL v).length := by
  obtain ⟨h1, h2, _⟩ := h
  cases m with
  | c x b => exact ⟨h1, Nat.le_trans h2 (Nat.le_add_right ..)⟩
  | a bf dr bh df b =>
    simp only [Mng.items, List.mem_append, List.length_append] at h1 h2
    cases v with
    | none =>
      cases df with
      | none => exact ⟨by simp [Mng.vb, optL], by simp [Mng.vb, optL]⟩
      | some d =>
        simp only [optL] at h1 h2
        refine ⟨fun s hs => ?_, by simp only [Mng.vb, Option.map_some, optL, List.length_append, List.length_nil]; omega⟩
        simp only [Mng.vb, Option.map_some, optL, List.mem_append] at hs
        rcases hs with (z | z) | z
        · exact h1 s (.inl z)
        · exact h1 s (.inr (.inr (.inr z)))
        · exact h1 s (.inr (.inr (.inl z)))
    | some l =>
      have lk := len_kept l dr
      refine ⟨fun s hs => ?_, by simp only [Mng.vb, optL, List.length_append]; omega⟩
      simp only [Mng.vb, optL, List.mem_append] at hs
      rcases hs with (z | z) | z
      · exact h1 s (.inl z)
      · exact hv s (mem_kept z)
      · exact h1 s (.inr (.inr (.inl z)))
theorem m_last (m : Mng) : (∀ Q : R → Prop, fLen [m.d] Q = Q (.d (.int (m.l.length : Int)))) ∧ ∀ Q : R → Prop, fIx m.d (.int ((m.l.length : Int) - 1)) Q = Q (.d (.bool m.locked)) := by
  cases m with
  | c v b =>
    refine ⟨fun Q => rfl, fun Q => propext ⟨fun ⟨d, h1, h2⟩ => ?_, fun h => ⟨_, rfl, h⟩⟩⟩
    cases h1
    exact h2
  | a bf dr bh df b =>
    refine ⟨fun Q => rfl, fun Q => propext ⟨fun ⟨d, h1, h2⟩ => ?_, fun h => ⟨_, rfl, h⟩⟩⟩
    cases h1
    exact h2
def diffB (f s : Mng) (t : Option (List Str)) : Bool := !PyData.eqv (vbD (f.ac t false)) (vbD (s.ac t false))
theorem diff_all {f s : Mng} (hf : f.fit) (hs : s.fit) {items : List Str} {fresh : Str} (h1 : ∀ x ∈ f.items, x ∈ items) (h2 : ∀ x ∈ s.items, x ∈ items) (hn : fresh ∉ items) : (trialsV items fresh).any (diffB f s) = !PyData.eqv f.d s.d := by
  have e1 : ∀ t, diffB f s t = false ↔ f.ac t false = s.ac t false := fun t => by
    unfold diffB
    rw [Bool.not_eq_false', eqv_pl _ _ (pl_vb _) (pl_vb _), vb_inj]
  have e2 : PyData.eqv f.d s.d = true ↔ f = s := by rw [eqv_pl _ _ (pl_m _) (pl_m _), m_inj]
  by_cases q : f = s
  · subst q
    rw [e2.mpr rfl, Bool.not_true, List.any_eq_false]
    exact fun t _ => by rw [(e1 t).mpr rfl]; simp
  · have : PyData.eqv f.d s.d = false := by
      cases z : PyData.eqv f.d s.d with
      | false => rfl
      | true => exact absurd (e2.mp z) q
    rw [this, Bool.not_false]
    refine Classical.byContradiction fun hc => q ?_
    rw [Bool.not_eq_true, List.any_eq_false] at hc
    have hall : ∀ t ∈ trialsV items fresh, f.ac t false = s.ac t false := fun t ht => (e1 t).mp (by simpa using hc t ht)
    have a0 := hall none (by simp [trialsV])
    refine trials_tell hf hs h1 h2 hn ?_ fun t ht => ?_
    · exact congrArg Prod.snd a0
    · exact congrArg Prod.fst (hall t ht)

theorem x_law_1 : ∃ w : WS, w = (wSet (wCall (fs__law_after) (wCons (wVar 3) (wCons (wCall (fs__law_single) (wCons (wVar 5) (wCons (wCall (fs__law_items_for) (wCons (wVar 1) (wCons (wBor 2) (wCons (wVar 5) wNil)))) wNil))) wNil))) 4) := ⟨_, rfl⟩
noncomputable def w_law_1 : WS := Classical.choose x_law_1
theorem e_law_1 : w_law_1 = (wSet (wCall (fs__law_after) (wCons (wVar 3) (wCons (wCall (fs__law_single) (wCons (wVar 5) (wCons (wCall (fs__law_items_for) (wCons (wVar 1) (wCons (wBor 2) (wCons (wVar 5) wNil)))) wNil))) wNil))) 4) := Classical.choose_spec x_law_1
theorem x_law_2 : ∃ w : WS, w = (wIfS (wB (wBin fNe (wBor 8) (wBor 9))) (wSet (wC (PyData.bool true)) 6) wNext) := ⟨_, rfl⟩
noncomputable def w_law_2 : WS := Classical.choose x_law_2
theorem e_law_2 : w_law_2 = (wIfS (wB (wBin fNe (wBor 8) (wBor 9))) (wSet (wC (PyData.bool true)) 6) wNext) := Classical.choose_spec x_law_2
theorem x_law_3 : ∃ w : WS, w = (wSeq (wIfS (wOrT (wNotT (wB (wCall (fs__law_so) (wCons (wVar 8) (wCons (wTup (wCons (wCall (fs__law_act) (wCons (wVar 3) (wCons (wVar 7) wNil))) (wCons (wBin fIx (wBor 3) (wBin fSub (wPrim fLen (wCons (wBor 3) wNil)) (wC (PyData.int 1)))) wNil))) wNil))))) (wNotT (wB (wCall (fs__law_so) (wCons (wVar 9) (wCons (wTup (wCons (wCall (fs__law_act) (wCons (wVar 4) (wCons (wVar 7) wNil))) (wCons (wBin fIx (wBor 4) (wBin fSub (wPrim fLen (wCons (wBor 4) wNil)) (wC (PyData.int 1)))) wNil))) wNil)))))) (wRet (wC (PyData.bool false))) wNext) w_law_2) := ⟨_, rfl⟩
noncomputable def w_law_3 : WS := Classical.choose x_law_3
theorem e_law_3 : w_law_3 = (wSeq (wIfS (wOrT (wNotT (wB (wCall (fs__law_so) (wCons (wVar 8) (wCons (wTup (wCons (wCall (fs__law_act) (wCons (wVar 3) (wCons (wVar 7) wNil))) (wCons (wBin fIx (wBor 3) (wBin fSub (wPrim fLen (wCons (wBor 3) wNil)) (wC (PyData.int 1)))) wNil))) wNil))))) (wNotT (wB (wCall (fs__law_so) (wCons (wVar 9) (wCons (wTup (wCons (wCall (fs__law_act) (wCons (wVar 4) (wCons (wVar 7) wNil))) (wCons (wBin fIx (wBor 4) (wBin fSub (wPrim fLen (wCons (wBor 4) wNil)) (wC (PyData.int 1)))) wNil))) wNil)))))) (wRet (wC (PyData.bool false))) wNext) w_law_2) := Classical.choose_spec x_law_3
theorem x_law_4 : ∃ w : WS, w = (wSeq (wSet (wCall (fs_act) (wCons (wVar 4) (wCons (wVar 7) (wCons (wC (PyData.bool false)) wNil)))) 9) w_law_3) := ⟨_, rfl⟩
noncomputable def w_law_4 : WS := Classical.choose x_law_4
theorem e_law_4 : w_law_4 = (wSeq (wSet (wCall (fs_act) (wCons (wVar 4) (wCons (wVar 7) (wCons (wC (PyData.bool false)) wNil)))) 9) w_law_3) := Classical.choose_spec x_law_4
theorem x_law_5 : ∃ w : WS, w = (wSeq (wSet (wCall (fs_act) (wCons (wVar 3) (wCons (wVar 7) (wCons (wC (PyData.bool false)) wNil)))) 8) w_law_4) := ⟨_, rfl⟩
noncomputable def w_law_5 : WS := Classical.choose x_law_5
theorem e_law_5 : w_law_5 = (wSeq (wSet (wCall (fs_act) (wCons (wVar 3) (wCons (wVar 7) (wCons (wC (PyData.bool false)) wNil)))) 8) w_law_4) := Classical.choose_spec x_law_5
theorem x_law_6 : ∃ w : WS, w = (wRet (wBin fEq (wBor 6) (wBin fNe (wBor 3) (wBor 4)))) := ⟨_, rfl⟩
noncomputable def w_law_6 : WS := Classical.choose x_law_6
theorem e_law_6 : w_law_6 = (wRet (wBin fEq (wBor 6) (wBin fNe (wBor 3) (wBor 4)))) := Classical.choose_spec x_law_6
theorem x_law_7 : ∃ w : WS, w = (wSeq (wFor (wIt (wCall (fs__law_trials_of) (wCons (wLst (wCons (wVar 3) (wCons (wVar 4) wNil))) wNil))) (.n 7) w_law_5) w_law_6) := ⟨_, rfl⟩
noncomputable def w_law_7 : WS := Classical.choose x_law_7
theorem e_law_7 : w_law_7 = (wSeq (wFor (wIt (wCall (fs__law_trials_of) (wCons (wLst (wCons (wVar 3) (wCons (wVar 4) wNil))) wNil))) (.n 7) w_law_5) w_law_6) := Classical.choose_spec x_law_7
theorem x_law_8 : ∃ w : WS, w = (wSeq (wSet (wC (PyData.bool false)) 6) w_law_7) := ⟨_, rfl⟩
noncomputable def w_law_8 : WS := Classical.choose x_law_8
theorem e_law_8 : w_law_8 = (wSeq (wSet (wC (PyData.bool false)) 6) w_law_7) := Classical.choose_spec x_law_8
theorem x_law_9 : ∃ w : WS, w = (wSeq (wIfS (wB (wBin fEq (wCall (fs__law_take) (wCons (wVar 1) (wCons (wBor 2) (wCons (wC (PyData.int 2)) wNil)))) (wC (PyData.int 0)))) (wSeq (wSet (wCall (fs__law_word) (wCons (wVar 1) (wCons (wBor 2) wNil))) 5) w_law_1) wNext) w_law_8) := ⟨_, rfl⟩
noncomputable def w_law_9 : WS := Classical.choose x_law_9
theorem e_law_9 : w_law_9 = (wSeq (wIfS (wB (wBin fEq (wCall (fs__law_take) (wCons (wVar 1) (wCons (wBor 2) (wCons (wC (PyData.int 2)) wNil)))) (wC (PyData.int 0)))) (wSeq (wSet (wCall (fs__law_word) (wCons (wVar 1) (wCons (wBor 2) wNil))) 5) w_law_1) wNext) w_law_8) := Classical.choose_spec x_law_9
theorem x_law_10 : ∃ w : WS, w = (wSeq (wSet (wCall (fs__law_random_meaning) (wCons (wVar 1) (wCons (wBor 2) wNil))) 4) w_law_9) := ⟨_, rfl⟩
noncomputable def w_law_10 : WS := Classical.choose x_law_10
theorem e_law_10 : w_law_10 = (wSeq (wSet (wCall (fs__law_random_meaning) (wCons (wVar 1) (wCons (wBor 2) wNil))) 4) w_law_9) := Classical.choose_spec x_law_10
theorem x_law_11 : ∃ w : WS, w = (wSeq (wSet (wCall (fs__law_random_meaning) (wCons (wVar 1) (wCons (wBor 2) wNil))) 3) w_law_10) := ⟨_, rfl⟩
noncomputable def w_law_11 : WS := Classical.choose x_law_11
theorem e_law_11 : w_law_11 = (wSeq (wSet (wCall (fs__law_random_meaning) (wCons (wVar 1) (wCons (wBor 2) wNil))) 3) w_law_10) := Classical.choose_spec x_law_11
theorem x_law_12 : ∃ w : WS, w = (wSeq (wSet (wLst (wCons (wC (PyData.int 0)) wNil)) 2) w_law_11) := ⟨_, rfl⟩
noncomputable def w_law_12 : WS := Classical.choose x_law_12
theorem e_law_12 : w_law_12 = (wSeq (wSet (wLst (wCons (wC (PyData.int 0)) wNil)) 2) w_law_11) := Classical.choose_spec x_law_12
theorem x_law : ∃ w : WS, w = (wSeq (wSet (wCall (fs__law_numbers) (wCons (wVar 0) wNil)) 1) w_law_12) := ⟨_, rfl⟩
noncomputable def w_law : WS := Classical.choose x_law
theorem e_law : w_law = (wSeq (wSet (wCall (fs__law_numbers) (wCons (wVar 0) wNil)) 1) w_law_12) := Classical.choose_spec x_law

def fs_law : FS := fun as Q _ => ∃ ns : List Int, as = [.v (.list (ns.map .int))] ∧ Q (.d (.bool true)) []
theorem l_law : ∀ as Q X, fs_law as Q X → as.length = 1 := by rintro as Q X ⟨_, rfl, _⟩; rfl
theorem law_true (ns : List Int) (hl : ns.length ≤ 63) : fs_law [.v (.list (ns.map .int))] (fun r _ => r = .d (.bool true)) (fun _ => False) := ⟨ns, rfl, rfl⟩
theorem m_law : ∀ as Q X, fs_law as Q X → w_law (as ++ List.replicate 9 Sl.no) (endP 1 Q X) := by
  rintro as Q X ⟨ns, rfl, h⟩
  rw [e_law]
  simp (maxSteps := 5000000) only [wSeq, wIfS, wRet, wRetN, wNext, wBreak, wCont, wNever, wSet, wAsg, wPar, wExpr, wFor, wApp, wPop, wSetIx, wVar, wBor, wTake, wC, wBin, wNil, wCons, wPrim, wCall, wTup, wLst, wSl, wNone, wSome, wM0, wM1, wB, wAndT, wOrT, wNotT, wAndV, wOrV, wNotV, wIf, wIsi, wIsi2, wNeg, wChain, wSortedSet, X_txl, X_txt, wIt, wIt.rdf, wRng1, wRng2, wLc, wYes, lcS, wipeG, backG, noMut, rd_d, rd_o, rd_b, rdf_d, rdf_o, fz_d, fz_o, fz_b, sl_d, sl_o, ok_d, ok_o, argSl_d, argSl_o, argSl_b, items_l, items_t, items_s, rds, rdF, stOk_eq, ncO_some, nc_v, nc_own, nc_no, stOks, setAll, wG, mutAt, putAt, Sl.mu, Sl.put, argSls, noB, fewB, putB, endP, cellsOf, cellF, List.getElem?_cons_zero, List.getElem?_cons_succ, List.getElem?_nil, List.set_cons_zero, List.set_cons_succ, List.append_eq, List.nil_append, List.cons_append, List.replicate, List.take_succ_cons, List.take_zero, List.take_nil, List.filterMap_cons, List.filterMap_nil, Option.map_some, Option.map_none, List.length_cons, List.length_nil, F_add_i, F_add_s, F_add_l, F_add_t, F_int, F_cmp_i, F_cmp_s, F_in_l, F_in_t, F_in_s, F_ix_l, F_ix_t, F_ix_s, F_sl_l, F_sl_t, F_sl_s, F_len_l, F_len_t, F_len_s, F_toInt, F_toStr, F_toTup_l, F_toTup_t, F_toLst_l, F_toLst_t, F_all, F_any, F_split, F_join_l, F_join_t, F_part, F_start, F_end, F_strip, F_sorted_l, F_sorted_t, N_none, N_str, N_int, N_bool, N_tup, N_lst, S_str, S_none, S_int, S_bool, S_tup, S_lst, I_str, I_none, I_int, I_bool, I_tup, I_lst, B_str, B_none, B_int, B_bool, B_tup, B_lst, T_str, T_none, T_int, T_bool, T_tup, T_lst, L_str, L_none, L_int, L_bool, L_tup, L_lst, D_str, D_none, D_int, D_bool, D_tup, D_lst, N_dic, S_dic, I_dic, B_dic, T_dic, L_dic, D_dic, E_ss, E_ii, E_bb, E_ns, E_is, E_bs, E_nn, isA_str, isA_int, isA_bool, isA_tuple, isA_list, isA_dict, fEq, fNe, fIsN, fNotN, eqv_str, eqv_int, eqv_bool, exists_eq_left', exists_eq_left, exists_and_left, R.d.injEq, R.o.injEq, PyData.bool.injEq, PyData.str.injEq, PyData.int.injEq, PyData.tuple.injEq, PyData.list.injEq, List.cons.injEq, Option.some.injEq, and_true, true_and, and_self, Bool.not_true, Bool.not_false, Bool.false_eq_true, Bool.true_eq_false, Bool.true_and, Bool.false_and, Bool.true_or, Bool.false_or, if_true, if_false, reduceIte, reduceCtorEq, not_false_eq_true, ne_eq, true_or, or_true, false_or, or_false, List.map_nil, List.map_cons, Option.toList_some, Option.toList_none, false_and, and_false, Bool.not_eq_true, Bool.or_false, Bool.or_true, Bool.and_true, Bool.and_false, List.append_eq]
  refine ⟨ns, rfl, fun row hr _ => ?_⟩
  simp (maxSteps := 5000000) only [wSeq, wIfS, wRet, wRetN, wNext, wBreak, wCont, wNever, wSet, wAsg, wPar, wExpr, wFor, wApp, wPop, wSetIx, wVar, wBor, wTake, wC, wBin, wNil, wCons, wPrim, wCall, wTup, wLst, wSl, wNone, wSome, wM0, wM1, wB, wAndT, wOrT, wNotT, wAndV, wOrV, wNotV, wIf, wIsi, wIsi2, wNeg, wChain, wSortedSet, X_txl, X_txt, wIt, wIt.rdf, wRng1, wRng2, wLc, wYes, lcS, wipeG, backG, noMut, rd_d, rd_o, rd_b, rdf_d, rdf_o, fz_d, fz_o, fz_b, sl_d, sl_o, ok_d, ok_o, argSl_d, argSl_o, argSl_b, items_l, items_t, items_s, rds, rdF, stOk_eq, ncO_some, nc_v, nc_own, nc_no, stOks, setAll, wG, mutAt, putAt, Sl.mu, Sl.put, argSls, noB, fewB, putB, endP, cellsOf, cellF, List.getElem?_cons_zero, List.getElem?_cons_succ, List.getElem?_nil, List.set_cons_zero, List.set_cons_succ, List.append_eq, List.nil_append, List.cons_append, List.replicate, List.take_succ_cons, List.take_zero, List.take_nil, List.filterMap_cons, List.filterMap_nil, Option.map_some, Option.map_none, List.length_cons, List.length_nil, F_add_i, F_add_s, F_add_l, F_add_t, F_int, F_cmp_i, F_cmp_s, F_in_l, F_in_t, F_in_s, F_ix_l, F_ix_t, F_ix_s, F_sl_l, F_sl_t, F_sl_s, F_len_l, F_len_t, F_len_s, F_toInt, F_toStr, F_toTup_l, F_toTup_t, F_toLst_l, F_toLst_t, F_all, F_any, F_split, F_join_l, F_join_t, F_part, F_start, F_end, F_strip, F_sorted_l, F_sorted_t, N_none, N_str, N_int, N_bool, N_tup, N_lst, S_str, S_none, S_int, S_bool, S_tup, S_lst, I_str, I_none, I_int, I_bool, I_tup, I_lst, B_str, B_none, B_int, B_bool, B_tup, B_lst, T_str, T_none, T_int, T_bool, T_tup, T_lst, L_str, L_none, L_int, L_bool, L_tup, L_lst, D_str, D_none, D_int, D_bool, D_tup, D_lst, N_dic, S_dic, I_dic, B_dic, T_dic, L_dic, D_dic, E_ss, E_ii, E_bb, E_ns, E_is, E_bs, E_nn, isA_str, isA_int, isA_bool, isA_tuple, isA_list, isA_dict, fEq, fNe, fIsN, fNotN, eqv_str, eqv_int, eqv_bool, exists_eq_left', exists_eq_left, exists_and_left, R.d.injEq, R.o.injEq, PyData.bool.injEq, PyData.str.injEq, PyData.int.injEq, PyData.tuple.injEq, PyData.list.injEq, List.cons.injEq, Option.some.injEq, and_true, true_and, and_self, Bool.not_true, Bool.not_false, Bool.false_eq_true, Bool.true_eq_false, Bool.true_and, Bool.false_and, Bool.true_or, Bool.false_or, if_true, if_false, reduceIte, reduceCtorEq, not_false_eq_true, ne_eq, true_or, or_true, false_or, or_false, List.map_nil, List.map_cons, Option.toList_some, Option.toList_none, false_and, and_false, Bool.not_eq_true, Bool.or_false, Bool.or_true, Bool.and_true, Bool.and_false]
  rw [e_law_12]
  simp (maxSteps := 5000000) only [wSeq, wIfS, wRet, wRetN, wNext, wBreak, wCont, wNever, wSet, wAsg, wPar, wExpr, wFor, wApp, wPop, wSetIx, wVar, wBor, wTake, wC, wBin, wNil, wCons, wPrim, wCall, wTup, wLst, wSl, wNone, wSome, wM0, wM1, wB, wAndT, wOrT, wNotT, wAndV, wOrV, wNotV, wIf, wIsi, wIsi2, wNeg, wChain, wSortedSet, X_txl, X_txt, wIt, wIt.rdf, wRng1, wRng2, wLc, wYes, lcS, wipeG, backG, noMut, rd_d, rd_o, rd_b, rdf_d, rdf_o, fz_d, fz_o, fz_b, sl_d, sl_o, ok_d, ok_o, argSl_d, argSl_o, argSl_b, items_l, items_t, items_s, rds, rdF, stOk_eq, ncO_some, nc_v, nc_own, nc_no, stOks, setAll, wG, mutAt, putAt, Sl.mu, Sl.put, argSls, noB, fewB, putB, endP, cellsOf, cellF, List.getElem?_cons_zero, List.getElem?_cons_succ, List.getElem?_nil, List.set_cons_zero, List.set_cons_succ, List.append_eq, List.nil_append, List.cons_append, List.replicate, List.take_succ_cons, List.take_zero, List.take_nil, List.filterMap_cons, List.filterMap_nil, Option.map_some, Option.map_none, List.length_cons, List.length_nil, F_add_i, F_add_s, F_add_l, F_add_t, F_int, F_cmp_i, F_cmp_s, F_in_l, F_in_t, F_in_s, F_ix_l, F_ix_t, F_ix_s, F_sl_l, F_sl_t, F_sl_s, F_len_l, F_len_t, F_len_s, F_toInt, F_toStr, F_toTup_l, F_toTup_t, F_toLst_l, F_toLst_t, F_all, F_any, F_split, F_join_l, F_join_t, F_part, F_start, F_end, F_strip, F_sorted_l, F_sorted_t, N_none, N_str, N_int, N_bool, N_tup, N_lst, S_str, S_none, S_int, S_bool, S_tup, S_lst, I_str, I_none, I_int, I_bool, I_tup, I_lst, B_str, B_none, B_int, B_bool, B_tup, B_lst, T_str, T_none, T_int, T_bool, T_tup, T_lst, L_str, L_none, L_int, L_bool, L_tup, L_lst, D_str, D_none, D_int, D_bool, D_tup, D_lst, N_dic, S_dic, I_dic, B_dic, T_dic, L_dic, D_dic, E_ss, E_ii, E_bb, E_ns, E_is, E_bs, E_nn, isA_str, isA_int, isA_bool, isA_tuple, isA_list, isA_dict, fEq, fNe, fIsN, fNotN, eqv_str, eqv_int, eqv_bool, exists_eq_left', exists_eq_left, exists_and_left, R.d.injEq, R.o.injEq, PyData.bool.injEq, PyData.str.injEq, PyData.int.injEq, PyData.tuple.injEq, PyData.list.injEq, List.cons.injEq, Option.some.injEq, and_true, true_and, and_self, Bool.not_true, Bool.not_false, Bool.false_eq_true, Bool.true_eq_false, Bool.true_and, Bool.false_and, Bool.true_or, Bool.false_or, if_true, if_false, reduceIte, reduceCtorEq, not_false_eq_true, ne_eq, true_or, or_true, false_or, or_false, List.map_nil, List.map_cons, Option.toList_some, Option.toList_none, false_and, and_false, Bool.not_eq_true, Bool.or_false, Bool.or_true, Bool.and_true, Bool.and_false]
  refine ⟨by decide, ?_⟩
  rw [e_law_11]
  simp (maxSteps := 5000000) only [wSeq, wIfS, wRet, wRetN, wNext, wBreak, wCont, wNever, wSet, wAsg, wPar, wExpr, wFor, wApp, wPop, wSetIx, wVar, wBor, wTake, wC, wBin, wNil, wCons, wPrim, wCall, wTup, wLst, wSl, wNone, wSome, wM0, wM1, wB, wAndT, wOrT, wNotT, wAndV, wOrV, wNotV, wIf, wIsi, wIsi2, wNeg, wChain, wSortedSet, X_txl, X_txt, wIt, wIt.rdf, wRng1, wRng2, wLc, wYes, lcS, wipeG, backG, noMut, rd_d, rd_o, rd_b, rdf_d, rdf_o, fz_d, fz_o, fz_b, sl_d, sl_o, ok_d, ok_o, argSl_d, argSl_o, argSl_b, items_l, items_t, items_s, rds, rdF, stOk_eq, ncO_some, nc_v, nc_own, nc_no, stOks, setAll, wG, mutAt, putAt, Sl.mu, Sl.put, argSls, noB, fewB, putB, endP, cellsOf, cellF, List.getElem?_cons_zero, List.getElem?_cons_succ, List.getElem?_nil, List.set_cons_zero, List.set_cons_succ, List.append_eq, List.nil_append, List.cons_append, List.replicate, List.take_succ_cons, List.take_zero, List.take_nil, List.filterMap_cons, List.filterMap_nil, Option.map_some, Option.map_none, List.length_cons, List.length_nil, F_add_i, F_add_s, F_add_l, F_add_t, F_int, F_cmp_i, F_cmp_s, F_in_l, F_in_t, F_in_s, F_ix_l, F_ix_t, F_ix_s, F_sl_l, F_sl_t, F_sl_s, F_len_l, F_len_t, F_len_s, F_toInt, F_toStr, F_toTup_l, F_toTup_t, F_toLst_l, F_toLst_t, F_all, F_any, F_split, F_join_l, F_join_t, F_part, F_start, F_end, F_strip, F_sorted_l, F_sorted_t, N_none, N_str, N_int, N_bool, N_tup, N_lst, S_str, S_none, S_int, S_bool, S_tup, S_lst, I_str, I_none, I_int, I_bool, I_tup, I_lst, B_str, B_none, B_int, B_bool, B_tup, B_lst, T_str, T_none, T_int, T_bool, T_tup, T_lst, L_str, L_none, L_int, L_bool, L_tup, L_lst, D_str, D_none, D_int, D_bool, D_tup, D_lst, N_dic, S_dic, I_dic, B_dic, T_dic, L_dic, D_dic, E_ss, E_ii, E_bb, E_ns, E_is, E_bs, E_nn, isA_str, isA_int, isA_bool, isA_tuple, isA_list, isA_dict, fEq, fNe, fIsN, fNotN, eqv_str, eqv_int, eqv_bool, exists_eq_left', exists_eq_left, exists_and_left, R.d.injEq, R.o.injEq, PyData.bool.injEq, PyData.str.injEq, PyData.int.injEq, PyData.tuple.injEq, PyData.list.injEq, List.cons.injEq, Option.some.injEq, and_true, true_and, and_self, Bool.not_true, Bool.not_false, Bool.false_eq_true, Bool.true_eq_false, Bool.true_and, Bool.false_and, Bool.true_or, Bool.false_or, if_true, if_false, reduceIte, reduceCtorEq, not_false_eq_true, ne_eq, true_or, or_true, false_or, or_false, List.map_nil, List.map_cons, Option.toList_some, Option.toList_none, false_and, and_false, Bool.not_eq_true, Bool.or_false, Bool.or_true, Bool.and_true, Bool.and_false]
  refine ⟨row, _, rfl, hr, by decide, fun f k1 hk1 hf => ?_⟩
  simp (maxSteps := 5000000) only [wSeq, wIfS, wRet, wRetN, wNext, wBreak, wCont, wNever, wSet, wAsg, wPar, wExpr, wFor, wApp, wPop, wSetIx, wVar, wBor, wTake, wC, wBin, wNil, wCons, wPrim, wCall, wTup, wLst, wSl, wNone, wSome, wM0, wM1, wB, wAndT, wOrT, wNotT, wAndV, wOrV, wNotV, wIf, wIsi, wIsi2, wNeg, wChain, wSortedSet, X_txl, X_txt, wIt, wIt.rdf, wRng1, wRng2, wLc, wYes, lcS, wipeG, backG, noMut, rd_d, rd_o, rd_b, rdf_d, rdf_o, fz_d, fz_o, fz_b, sl_d, sl_o, ok_d, ok_o, argSl_d, argSl_o, argSl_b, items_l, items_t, items_s, rds, rdF, stOk_eq, ncO_some, nc_v, nc_own, nc_no, stOks, setAll, wG, mutAt, putAt, Sl.mu, Sl.put, argSls, noB, fewB, putB, endP, cellsOf, cellF, List.getElem?_cons_zero, List.getElem?_cons_succ, List.getElem?_nil, List.set_cons_zero, List.set_cons_succ, List.append_eq, List.nil_append, List.cons_append, List.replicate, List.take_succ_cons, List.take_zero, List.take_nil, List.filterMap_cons, List.filterMap_nil, Option.map_some, Option.map_none, List.length_cons, List.length_nil, F_add_i, F_add_s, F_add_l, F_add_t, F_int, F_cmp_i, F_cmp_s, F_in_l, F_in_t, F_in_s, F_ix_l, F_ix_t, F_ix_s, F_sl_l, F_sl_t, F_sl_s, F_len_l, F_len_t, F_len_s, F_toInt, F_toStr, F_toTup_l, F_toTup_t, F_toLst_l, F_toLst_t, F_all, F_any, F_split, F_join_l, F_join_t, F_part, F_start, F_end, F_strip, F_sorted_l, F_sorted_t, N_none, N_str, N_int, N_bool, N_tup, N_lst, S_str, S_none, S_int, S_bool, S_tup, S_lst, I_str, I_none, I_int, I_bool, I_tup, I_lst, B_str, B_none, B_int, B_bool, B_tup, B_lst, T_str, T_none, T_int, T_bool, T_tup, T_lst, L_str, L_none, L_int, L_bool, L_tup, L_lst, D_str, D_none, D_int, D_bool, D_tup, D_lst, N_dic, S_dic, I_dic, B_dic, T_dic, L_dic, D_dic, E_ss, E_ii, E_bb, E_ns, E_is, E_bs, E_nn, isA_str, isA_int, isA_bool, isA_tuple, isA_list, isA_dict, fEq, fNe, fIsN, fNotN, eqv_str, eqv_int, eqv_bool, exists_eq_left', exists_eq_left, exists_and_left, R.d.injEq, R.o.injEq, PyData.bool.injEq, PyData.str.injEq, PyData.int.injEq, PyData.tuple.injEq, PyData.list.injEq, List.cons.injEq, Option.some.injEq, and_true, true_and, and_self, Bool.not_true, Bool.not_false, Bool.false_eq_true, Bool.true_eq_false, Bool.true_and, Bool.false_and, Bool.true_or, Bool.false_or, if_true, if_false, reduceIte, reduceCtorEq, not_false_eq_true, ne_eq, true_or, or_true, false_or, or_false, List.map_nil, List.map_cons, Option.toList_some, Option.toList_none, false_and, and_false, Bool.not_eq_true, Bool.or_false, Bool.or_true, Bool.and_true, Bool.and_false]
  rw [e_law_10]
  simp (maxSteps := 5000000) only [wSeq, wIfS, wRet, wRetN, wNext, wBreak, wCont, wNever, wSet, wAsg, wPar, wExpr, wFor, wApp, wPop, wSetIx, wVar, wBor, wTake, wC, wBin, wNil, wCons, wPrim, wCall, wTup, wLst, wSl, wNone, wSome, wM0, wM1, wB, wAndT, wOrT, wNotT, wAndV, wOrV, wNotV, wIf, wIsi, wIsi2, wNeg, wChain, wSortedSet, X_txl, X_txt, wIt, wIt.rdf, wRng1, wRng2, wLc, wYes, lcS, wipeG, backG, noMut, rd_d, rd_o, rd_b, rdf_d, rdf_o, fz_d, fz_o, fz_b, sl_d, sl_o, ok_d, ok_o, argSl_d, argSl_o, argSl_b, items_l, items_t, items_s, rds, rdF, stOk_eq, ncO_some, nc_v, nc_own, nc_no, stOks, setAll, wG, mutAt, putAt, Sl.mu, Sl.put, argSls, noB, fewB, putB, endP, cellsOf, cellF, List.getElem?_cons_zero, List.getElem?_cons_succ, List.getElem?_nil, List.set_cons_zero, List.set_cons_succ, List.append_eq, List.nil_append, List.cons_append, List.replicate, List.take_succ_cons, List.take_zero, List.take_nil, List.filterMap_cons, List.filterMap_nil, Option.map_some, Option.map_none, List.length_cons, List.length_nil, F_add_i, F_add_s, F_add_l, F_add_t, F_int, F_cmp_i, F_cmp_s, F_in_l, F_in_t, F_in_s, F_ix_l, F_ix_t, F_ix_s, F_sl_l, F_sl_t, F_sl_s, F_len_l, F_len_t, F_len_s, F_toInt, F_toStr, F_toTup_l, F_toTup_t, F_toLst_l, F_toLst_t, F_all, F_any, F_split, F_join_l, F_join_t, F_part, F_start, F_end, F_strip, F_sorted_l, F_sorted_t, N_none, N_str, N_int, N_bool, N_tup, N_lst, S_str, S_none, S_int, S_bool, S_tup, S_lst, I_str, I_none, I_int, I_bool, I_tup, I_lst, B_str, B_none, B_int, B_bool, B_tup, B_lst, T_str, T_none, T_int, T_bool, T_tup, T_lst, L_str, L_none, L_int, L_bool, L_tup, L_lst, D_str, D_none, D_int, D_bool, D_tup, D_lst, N_dic, S_dic, I_dic, B_dic, T_dic, L_dic, D_dic, E_ss, E_ii, E_bb, E_ns, E_is, E_bs, E_nn, isA_str, isA_int, isA_bool, isA_tuple, isA_list, isA_dict, fEq, fNe, fIsN, fNotN, eqv_str, eqv_int, eqv_bool, exists_eq_left', exists_eq_left, exists_and_left, R.d.injEq, R.o.injEq, PyData.bool.injEq, PyData.str.injEq, PyData.int.injEq, PyData.tuple.injEq, PyData.list.injEq, List.cons.injEq, Option.some.injEq, and_true, true_and, and_self, Bool.not_true, Bool.not_false, Bool.false_eq_true, Bool.true_eq_false, Bool.true_and, Bool.false_and, Bool.true_or, Bool.false_or, if_true, if_false, reduceIte, reduceCtorEq, not_false_eq_true, ne_eq, true_or, or_true, false_or, or_false, List.map_nil, List.map_cons, Option.toList_some, Option.toList_none, false_and, and_false, Bool.not_eq_true, Bool.or_false, Bool.or_true, Bool.and_true, Bool.and_false]
  refine ⟨row, k1, rfl, hr, hk1, fun s k2 hk2 hs => ?_⟩
  simp (maxSteps := 5000000) only [wSeq, wIfS, wRet, wRetN, wNext, wBreak, wCont, wNever, wSet, wAsg, wPar, wExpr, wFor, wApp, wPop, wSetIx, wVar, wBor, wTake, wC, wBin, wNil, wCons, wPrim, wCall, wTup, wLst, wSl, wNone, wSome, wM0, wM1, wB, wAndT, wOrT, wNotT, wAndV, wOrV, wNotV, wIf, wIsi, wIsi2, wNeg, wChain, wSortedSet, X_txl, X_txt, wIt, wIt.rdf, wRng1, wRng2, wLc, wYes, lcS, wipeG, backG, noMut, rd_d, rd_o, rd_b, rdf_d, rdf_o, fz_d, fz_o, fz_b, sl_d, sl_o, ok_d, ok_o, argSl_d, argSl_o, argSl_b, items_l, items_t, items_s, rds, rdF, stOk_eq, ncO_some, nc_v, nc_own, nc_no, stOks, setAll, wG, mutAt, putAt, Sl.mu, Sl.put, argSls, noB, fewB, putB, endP, cellsOf, cellF, List.getElem?_cons_zero, List.getElem?_cons_succ, List.getElem?_nil, List.set_cons_zero, List.set_cons_succ, List.append_eq, List.nil_append, List.cons_append, List.replicate, List.take_succ_cons, List.take_zero, List.take_nil, List.filterMap_cons, List.filterMap_nil, Option.map_some, Option.map_none, List.length_cons, List.length_nil, F_add_i, F_add_s, F_add_l, F_add_t, F_int, F_cmp_i, F_cmp_s, F_in_l, F_in_t, F_in_s, F_ix_l, F_ix_t, F_ix_s, F_sl_l, F_sl_t, F_sl_s, F_len_l, F_len_t, F_len_s, F_toInt, F_toStr, F_toTup_l, F_toTup_t, F_toLst_l, F_toLst_t, F_all, F_any, F_split, F_join_l, F_join_t, F_part, F_start, F_end, F_strip, F_sorted_l, F_sorted_t, N_none, N_str, N_int, N_bool, N_tup, N_lst, S_str, S_none, S_int, S_bool, S_tup, S_lst, I_str, I_none, I_int, I_bool, I_tup, I_lst, B_str, B_none, B_int, B_bool, B_tup, B_lst, T_str, T_none, T_int, T_bool, T_tup, T_lst, L_str, L_none, L_int, L_bool, L_tup, L_lst, D_str, D_none, D_int, D_bool, D_tup, D_lst, N_dic, S_dic, I_dic, B_dic, T_dic, L_dic, D_dic, E_ss, E_ii, E_bb, E_ns, E_is, E_bs, E_nn, isA_str, isA_int, isA_bool, isA_tuple, isA_list, isA_dict, fEq, fNe, fIsN, fNotN, eqv_str, eqv_int, eqv_bool, exists_eq_left', exists_eq_left, exists_and_left, R.d.injEq, R.o.injEq, PyData.bool.injEq, PyData.str.injEq, PyData.int.injEq, PyData.tuple.injEq, PyData.list.injEq, List.cons.injEq, Option.some.injEq, and_true, true_and, and_self, Bool.not_true, Bool.not_false, Bool.false_eq_true, Bool.true_eq_false, Bool.true_and, Bool.false_and, Bool.true_or, Bool.false_or, if_true, if_false, reduceIte, reduceCtorEq, not_false_eq_true, ne_eq, true_or, or_true, false_or, or_false, List.map_nil, List.map_cons, Option.toList_some, Option.toList_none, false_and, and_false, Bool.not_eq_true, Bool.or_false, Bool.or_true, Bool.and_true, Bool.and_false]
  have tail : ∀ (s : Mng) (k : Int) (e5 : Sl), s.Ok 15 → 0 ≤ k → w_law_8 [.v (.list (ns.map .int)), .v (.list (row.map .int)), .own [.int k], .v f.d, .v s.d, e5, .no, .no, .no, .no] (endP 1 Q X) := fun s k e5 hs hk => by
    have hf15 := hf.mono (show 12 ≤ 15 by decide)
    have sayf := say_m hf15 (by decide)
    have says := say_m hs (by decide)
    obtain ⟨fl1, fx1⟩ := m_last f
    obtain ⟨fl2, fx2⟩ := m_last s
    rw [e_law_8]
    simp (maxSteps := 5000000) only [wSeq, wIfS, wRet, wRetN, wNext, wBreak, wCont, wNever, wSet, wAsg, wPar, wExpr, wFor, wApp, wPop, wSetIx, wVar, wBor, wTake, wC, wBin, wNil, wCons, wPrim, wCall, wTup, wLst, wSl, wNone, wSome, wM0, wM1, wB, wAndT, wOrT, wNotT, wAndV, wOrV, wNotV, wIf, wIsi, wIsi2, wNeg, wChain, wSortedSet, X_txl, X_txt, wIt, wIt.rdf, wRng1, wRng2, wLc, wYes, lcS, wipeG, backG, noMut, rd_d, rd_o, rd_b, rdf_d, rdf_o, fz_d, fz_o, fz_b, sl_d, sl_o, ok_d, ok_o, argSl_d, argSl_o, argSl_b, items_l, items_t, items_s, rds, rdF, stOk_eq, ncO_some, nc_v, nc_own, nc_no, stOks, setAll, wG, mutAt, putAt, Sl.mu, Sl.put, argSls, noB, fewB, putB, endP, cellsOf, cellF, List.getElem?_cons_zero, List.getElem?_cons_succ, List.getElem?_nil, List.set_cons_zero, List.set_cons_succ, List.append_eq, List.nil_append, List.cons_append, List.replicate, List.take_succ_cons, List.take_zero, List.take_nil, List.filterMap_cons, List.filterMap_nil, Option.map_some, Option.map_none, List.length_cons, List.length_nil, F_add_i, F_add_s, F_add_l, F_add_t, F_int, F_cmp_i, F_cmp_s, F_in_l, F_in_t, F_in_s, F_ix_l, F_ix_t, F_ix_s, F_sl_l, F_sl_t, F_sl_s, F_len_l, F_len_t, F_len_s, F_toInt, F_toStr, F_toTup_l, F_toTup_t, F_toLst_l, F_toLst_t, F_all, F_any, F_split, F_join_l, F_join_t, F_part, F_start, F_end, F_strip, F_sorted_l, F_sorted_t, N_none, N_str, N_int, N_bool, N_tup, N_lst, S_str, S_none, S_int, S_bool, S_tup, S_lst, I_str, I_none, I_int, I_bool, I_tup, I_lst, B_str, B_none, B_int, B_bool, B_tup, B_lst, T_str, T_none, T_int, T_bool, T_tup, T_lst, L_str, L_none, L_int, L_bool, L_tup, L_lst, D_str, D_none, D_int, D_bool, D_tup, D_lst, N_dic, S_dic, I_dic, B_dic, T_dic, L_dic, D_dic, E_ss, E_ii, E_bb, E_ns, E_is, E_bs, E_nn, isA_str, isA_int, isA_bool, isA_tuple, isA_list, isA_dict, fEq, fNe, fIsN, fNotN, eqv_str, eqv_int, eqv_bool, exists_eq_left', exists_eq_left, exists_and_left, R.d.injEq, R.o.injEq, PyData.bool.injEq, PyData.str.injEq, PyData.int.injEq, PyData.tuple.injEq, PyData.list.injEq, List.cons.injEq, Option.some.injEq, and_true, true_and, and_self, Bool.not_true, Bool.not_false, Bool.false_eq_true, Bool.true_eq_false, Bool.true_and, Bool.false_and, Bool.true_or, Bool.false_or, if_true, if_false, reduceIte, reduceCtorEq, not_false_eq_true, ne_eq, true_or, or_true, false_or, or_false, List.map_nil, List.map_cons, Option.toList_some, Option.toList_none, false_and, and_false, Bool.not_eq_true, Bool.or_false, Bool.or_true, Bool.and_true, Bool.and_false]
    rw [e_law_7]
    simp (maxSteps := 5000000) only [wSeq, wIfS, wRet, wRetN, wNext, wBreak, wCont, wNever, wSet, wAsg, wPar, wExpr, wFor, wApp, wPop, wSetIx, wVar, wBor, wTake, wC, wBin, wNil, wCons, wPrim, wCall, wTup, wLst, wSl, wNone, wSome, wM0, wM1, wB, wAndT, wOrT, wNotT, wAndV, wOrV, wNotV, wIf, wIsi, wIsi2, wNeg, wChain, wSortedSet, X_txl, X_txt, wIt, wIt.rdf, wRng1, wRng2, wLc, wYes, lcS, wipeG, backG, noMut, rd_d, rd_o, rd_b, rdf_d, rdf_o, fz_d, fz_o, fz_b, sl_d, sl_o, ok_d, ok_o, argSl_d, argSl_o, argSl_b, items_l, items_t, items_s, rds, rdF, stOk_eq, ncO_some, nc_v, nc_own, nc_no, stOks, setAll, wG, mutAt, putAt, Sl.mu, Sl.put, argSls, noB, fewB, putB, endP, cellsOf, cellF, List.getElem?_cons_zero, List.getElem?_cons_succ, List.getElem?_nil, List.set_cons_zero, List.set_cons_succ, List.append_eq, List.nil_append, List.cons_append, List.replicate, List.take_succ_cons, List.take_zero, List.take_nil, List.filterMap_cons, List.filterMap_nil, Option.map_some, Option.map_none, List.length_cons, List.length_nil, F_add_i, F_add_s, F_add_l, F_add_t, F_int, F_cmp_i, F_cmp_s, F_in_l, F_in_t, F_in_s, F_ix_l, F_ix_t, F_ix_s, F_sl_l, F_sl_t, F_sl_s, F_len_l, F_len_t, F_len_s, F_toInt, F_toStr, F_toTup_l, F_toTup_t, F_toLst_l, F_toLst_t, F_all, F_any, F_split, F_join_l, F_join_t, F_part, F_start, F_end, F_strip, F_sorted_l, F_sorted_t, N_none, N_str, N_int, N_bool, N_tup, N_lst, S_str, S_none, S_int, S_bool, S_tup, S_lst, I_str, I_none, I_int, I_bool, I_tup, I_lst, B_str, B_none, B_int, B_bool, B_tup, B_lst, T_str, T_none, T_int, T_bool, T_tup, T_lst, L_str, L_none, L_int, L_bool, L_tup, L_lst, D_str, D_none, D_int, D_bool, D_tup, D_lst, N_dic, S_dic, I_dic, B_dic, T_dic, L_dic, D_dic, E_ss, E_ii, E_bb, E_ns, E_is, E_bs, E_nn, isA_str, isA_int, isA_bool, isA_tuple, isA_list, isA_dict, fEq, fNe, fIsN, fNotN, eqv_str, eqv_int, eqv_bool, exists_eq_left', exists_eq_left, exists_and_left, R.d.injEq, R.o.injEq, PyData.bool.injEq, PyData.str.injEq, PyData.int.injEq, PyData.tuple.injEq, PyData.list.injEq, List.cons.injEq, Option.some.injEq, and_true, true_and, and_self, Bool.not_true, Bool.not_false, Bool.false_eq_true, Bool.true_eq_false, Bool.true_and, Bool.false_and, Bool.true_or, Bool.false_or, if_true, if_false, reduceIte, reduceCtorEq, not_false_eq_true, ne_eq, true_or, or_true, false_or, or_false, List.map_nil, List.map_cons, Option.toList_some, Option.toList_none, false_and, and_false, Bool.not_eq_true, Bool.or_false, Bool.or_true, Bool.and_true, Bool.and_false]
    refine ⟨by decide, [f, s], rfl, by simp, by simp, fun m hm => ?_, fun fresh hfi hfn => ?_⟩
    · simp only [List.mem_cons, List.not_mem_nil, or_false] at hm
      rcases hm with rfl | rfl
      · exact hf15.mono (by decide)
      · exact hs.mono (by decide)
    have hsub : ∀ x ∈ riseF ([f, s].map Mng.items).flatten, isIt x := fun x hx => by
      have := mem_riseF.mp hx
      simp only [List.map_cons, List.map_nil, List.flatten_cons, List.flatten_nil, List.append_nil, List.mem_append] at this
      rcases this with z | z
      · exact hf.its x z
      · exact hs.its x z
    have hin1 : ∀ x ∈ f.items, x ∈ riseF ([f, s].map Mng.items).flatten := fun x hx => mem_riseF.mpr (by simp [hx])
    have hin2 : ∀ x ∈ s.items, x ∈ riseF ([f, s].map Mng.items).flatten := fun x hx => mem_riseF.mpr (by simp [hx])
    have hall := diff_all hf.fit hs.fit hin1 hin2 hfn
    revert hsub hall
    generalize riseF ([f, s].map Mng.items).flatten = items
    intro hsub hall
    have tok : ∀ t ∈ trialsV items fresh, (∀ x ∈ optL t, isIt x) ∧ (optL t).length ≤ 1 := fun t ht => by
      simp only [trialsV, List.mem_cons, List.mem_append, List.mem_map, List.not_mem_nil, or_false] at ht
      rcases ht with rfl | rfl | ⟨i, hi, rfl⟩ | rfl
      · exact ⟨by simp [optL], by simp [optL]⟩
      · exact ⟨by simp [optL], by simp [optL]⟩
      · exact ⟨by simpa [optL] using hsub i hi, by simp [optL]⟩
      · exact ⟨by simpa [optL] using hfi, by simp [optL]⟩
    revert hall tok
    generalize trialsV items fresh = tv
    intro hall tok
    simp (maxSteps := 5000000) only [wSeq, wIfS, wRet, wRetN, wNext, wBreak, wCont, wNever, wSet, wAsg, wPar, wExpr, wFor, wApp, wPop, wSetIx, wVar, wBor, wTake, wC, wBin, wNil, wCons, wPrim, wCall, wTup, wLst, wSl, wNone, wSome, wM0, wM1, wB, wAndT, wOrT, wNotT, wAndV, wOrV, wNotV, wIf, wIsi, wIsi2, wNeg, wChain, wSortedSet, X_txl, X_txt, wIt, wIt.rdf, wRng1, wRng2, wLc, wYes, lcS, wipeG, backG, noMut, rd_d, rd_o, rd_b, rdf_d, rdf_o, fz_d, fz_o, fz_b, sl_d, sl_o, ok_d, ok_o, argSl_d, argSl_o, argSl_b, items_l, items_t, items_s, rds, rdF, stOk_eq, ncO_some, nc_v, nc_own, nc_no, stOks, setAll, wG, mutAt, putAt, Sl.mu, Sl.put, argSls, noB, fewB, putB, endP, cellsOf, cellF, List.getElem?_cons_zero, List.getElem?_cons_succ, List.getElem?_nil, List.set_cons_zero, List.set_cons_succ, List.append_eq, List.nil_append, List.cons_append, List.replicate, List.take_succ_cons, List.take_zero, List.take_nil, List.filterMap_cons, List.filterMap_nil, Option.map_some, Option.map_none, List.length_cons, List.length_nil, F_add_i, F_add_s, F_add_l, F_add_t, F_int, F_cmp_i, F_cmp_s, F_in_l, F_in_t, F_in_s, F_ix_l, F_ix_t, F_ix_s, F_sl_l, F_sl_t, F_sl_s, F_len_l, F_len_t, F_len_s, F_toInt, F_toStr, F_toTup_l, F_toTup_t, F_toLst_l, F_toLst_t, F_all, F_any, F_split, F_join_l, F_join_t, F_part, F_start, F_end, F_strip, F_sorted_l, F_sorted_t, N_none, N_str, N_int, N_bool, N_tup, N_lst, S_str, S_none, S_int, S_bool, S_tup, S_lst, I_str, I_none, I_int, I_bool, I_tup, I_lst, B_str, B_none, B_int, B_bool, B_tup, B_lst, T_str, T_none, T_int, T_bool, T_tup, T_lst, L_str, L_none, L_int, L_bool, L_tup, L_lst, D_str, D_none, D_int, D_bool, D_tup, D_lst, N_dic, S_dic, I_dic, B_dic, T_dic, L_dic, D_dic, E_ss, E_ii, E_bb, E_ns, E_is, E_bs, E_nn, isA_str, isA_int, isA_bool, isA_tuple, isA_list, isA_dict, fEq, fNe, fIsN, fNotN, eqv_str, eqv_int, eqv_bool, exists_eq_left', exists_eq_left, exists_and_left, R.d.injEq, R.o.injEq, PyData.bool.injEq, PyData.str.injEq, PyData.int.injEq, PyData.tuple.injEq, PyData.list.injEq, List.cons.injEq, Option.some.injEq, and_true, true_and, and_self, Bool.not_true, Bool.not_false, Bool.false_eq_true, Bool.true_eq_false, Bool.true_and, Bool.false_and, Bool.true_or, Bool.false_or, if_true, if_false, reduceIte, reduceCtorEq, not_false_eq_true, ne_eq, true_or, or_true, false_or, or_false, List.map_nil, List.map_cons, Option.toList_some, Option.toList_none, false_and, and_false, Bool.not_eq_true, Bool.or_false, Bool.or_true, Bool.and_true, Bool.and_false]
    refine forI_E tv optT (fun pre Γ => ∃ e7 e8 e9 : Sl, nc e7 ∧ nc e8 ∧ nc e9 ∧ Γ = [.v (.list (ns.map .int)), .v (.list (row.map .int)), .own [.int k], .v f.d, .v s.d, e5, .v (.bool (pre.any (diffB f s))), e7, e8, e9]) rfl ⟨.no, .no, .no, trivial, trivial, trivial, rfl⟩ ?_ ?_
    · rintro pre t post _ q ⟨e7, e8, e9, n7, n8, n9, rfl⟩ N hN
      obtain ⟨ti, tl⟩ := tok t (by rw [q]; simp)
      obtain ⟨vi1, vl1⟩ := its_vb hf15 ti
      obtain ⟨vi2, vl2⟩ := its_vb hs ti
      have hv1 := vb_ok (p := f.ac t false) vi1 (Nat.le_trans vl1 (by omega))
      have hv2 := vb_ok (p := s.ac t false) vi2 (Nat.le_trans vl2 (by omega))
      have es : (pre ++ [t]).any (diffB f s) = (pre.any (diffB f s) || diffB f s t) := by simp
      have hN := fun e7 e8 e9 n7 n8 n9 => hN [.v (.list (ns.map .int)), .v (.list (row.map .int)), .own [.int k], .v f.d, .v s.d, e5, .v (.bool ((pre ++ [t]).any (diffB f s))), e7, e8, e9] ⟨e7, e8, e9, n7, n8, n9, rfl⟩
      rw [es] at hN
      rw [e_law_5]
      simp (maxSteps := 5000000) only [wSeq, wIfS, wRet, wRetN, wNext, wBreak, wCont, wNever, wSet, wAsg, wPar, wExpr, wFor, wApp, wPop, wSetIx, wVar, wBor, wTake, wC, wBin, wNil, wCons, wPrim, wCall, wTup, wLst, wSl, wNone, wSome, wM0, wM1, wB, wAndT, wOrT, wNotT, wAndV, wOrV, wNotV, wIf, wIsi, wIsi2, wNeg, wChain, wSortedSet, X_txl, X_txt, wIt, wIt.rdf, wRng1, wRng2, wLc, wYes, lcS, wipeG, backG, noMut, rd_d, rd_o, rd_b, rdf_d, rdf_o, fz_d, fz_o, fz_b, sl_d, sl_o, ok_d, ok_o, argSl_d, argSl_o, argSl_b, items_l, items_t, items_s, rds, rdF, stOk_eq, ncO_some, nc_v, nc_own, nc_no, stOks, setAll, wG, mutAt, putAt, Sl.mu, Sl.put, argSls, noB, fewB, putB, endP, cellsOf, cellF, List.getElem?_cons_zero, List.getElem?_cons_succ, List.getElem?_nil, List.set_cons_zero, List.set_cons_succ, List.append_eq, List.nil_append, List.cons_append, List.replicate, List.take_succ_cons, List.take_zero, List.take_nil, List.filterMap_cons, List.filterMap_nil, Option.map_some, Option.map_none, List.length_cons, List.length_nil, F_add_i, F_add_s, F_add_l, F_add_t, F_int, F_cmp_i, F_cmp_s, F_in_l, F_in_t, F_in_s, F_ix_l, F_ix_t, F_ix_s, F_sl_l, F_sl_t, F_sl_s, F_len_l, F_len_t, F_len_s, F_toInt, F_toStr, F_toTup_l, F_toTup_t, F_toLst_l, F_toLst_t, F_all, F_any, F_split, F_join_l, F_join_t, F_part, F_start, F_end, F_strip, F_sorted_l, F_sorted_t, N_none, N_str, N_int, N_bool, N_tup, N_lst, S_str, S_none, S_int, S_bool, S_tup, S_lst, I_str, I_none, I_int, I_bool, I_tup, I_lst, B_str, B_none, B_int, B_bool, B_tup, B_lst, T_str, T_none, T_int, T_bool, T_tup, T_lst, L_str, L_none, L_int, L_bool, L_tup, L_lst, D_str, D_none, D_int, D_bool, D_tup, D_lst, N_dic, S_dic, I_dic, B_dic, T_dic, L_dic, D_dic, E_ss, E_ii, E_bb, E_ns, E_is, E_bs, E_nn, isA_str, isA_int, isA_bool, isA_tuple, isA_list, isA_dict, fEq, fNe, fIsN, fNotN, eqv_str, eqv_int, eqv_bool, exists_eq_left', exists_eq_left, exists_and_left, R.d.injEq, R.o.injEq, PyData.bool.injEq, PyData.str.injEq, PyData.int.injEq, PyData.tuple.injEq, PyData.list.injEq, List.cons.injEq, Option.some.injEq, and_true, true_and, and_self, Bool.not_true, Bool.not_false, Bool.false_eq_true, Bool.true_eq_false, Bool.true_and, Bool.false_and, Bool.true_or, Bool.false_or, if_true, if_false, reduceIte, reduceCtorEq, not_false_eq_true, ne_eq, true_or, or_true, false_or, or_false, List.map_nil, List.map_cons, Option.toList_some, Option.toList_none, false_and, and_false, Bool.not_eq_true, Bool.or_false, Bool.or_true, Bool.and_true, Bool.and_false, n7, n8, n9]
      refine ⟨_, _, f, t, false, 15, rfl, sayf, hf15, sayV_self ti, by omega, ?_⟩
      simp (maxSteps := 5000000) only [wSeq, wIfS, wRet, wRetN, wNext, wBreak, wCont, wNever, wSet, wAsg, wPar, wExpr, wFor, wApp, wPop, wSetIx, wVar, wBor, wTake, wC, wBin, wNil, wCons, wPrim, wCall, wTup, wLst, wSl, wNone, wSome, wM0, wM1, wB, wAndT, wOrT, wNotT, wAndV, wOrV, wNotV, wIf, wIsi, wIsi2, wNeg, wChain, wSortedSet, X_txl, X_txt, wIt, wIt.rdf, wRng1, wRng2, wLc, wYes, lcS, wipeG, backG, noMut, rd_d, rd_o, rd_b, rdf_d, rdf_o, fz_d, fz_o, fz_b, sl_d, sl_o, ok_d, ok_o, argSl_d, argSl_o, argSl_b, items_l, items_t, items_s, rds, rdF, stOk_eq, ncO_some, nc_v, nc_own, nc_no, stOks, setAll, wG, mutAt, putAt, Sl.mu, Sl.put, argSls, noB, fewB, putB, endP, cellsOf, cellF, List.getElem?_cons_zero, List.getElem?_cons_succ, List.getElem?_nil, List.set_cons_zero, List.set_cons_succ, List.append_eq, List.nil_append, List.cons_append, List.replicate, List.take_succ_cons, List.take_zero, List.take_nil, List.filterMap_cons, List.filterMap_nil, Option.map_some, Option.map_none, List.length_cons, List.length_nil, F_add_i, F_add_s, F_add_l, F_add_t, F_int, F_cmp_i, F_cmp_s, F_in_l, F_in_t, F_in_s, F_ix_l, F_ix_t, F_ix_s, F_sl_l, F_sl_t, F_sl_s, F_len_l, F_len_t, F_len_s, F_toInt, F_toStr, F_toTup_l, F_toTup_t, F_toLst_l, F_toLst_t, F_all, F_any, F_split, F_join_l, F_join_t, F_part, F_start, F_end, F_strip, F_sorted_l, F_sorted_t, N_none, N_str, N_int, N_bool, N_tup, N_lst, S_str, S_none, S_int, S_bool, S_tup, S_lst, I_str, I_none, I_int, I_bool, I_tup, I_lst, B_str, B_none, B_int, B_bool, B_tup, B_lst, T_str, T_none, T_int, T_bool, T_tup, T_lst, L_str, L_none, L_int, L_bool, L_tup, L_lst, D_str, D_none, D_int, D_bool, D_tup, D_lst, N_dic, S_dic, I_dic, B_dic, T_dic, L_dic, D_dic, E_ss, E_ii, E_bb, E_ns, E_is, E_bs, E_nn, isA_str, isA_int, isA_bool, isA_tuple, isA_list, isA_dict, fEq, fNe, fIsN, fNotN, eqv_str, eqv_int, eqv_bool, exists_eq_left', exists_eq_left, exists_and_left, R.d.injEq, R.o.injEq, PyData.bool.injEq, PyData.str.injEq, PyData.int.injEq, PyData.tuple.injEq, PyData.list.injEq, List.cons.injEq, Option.some.injEq, and_true, true_and, and_self, Bool.not_true, Bool.not_false, Bool.false_eq_true, Bool.true_eq_false, Bool.true_and, Bool.false_and, Bool.true_or, Bool.false_or, if_true, if_false, reduceIte, reduceCtorEq, not_false_eq_true, ne_eq, true_or, or_true, false_or, or_false, List.map_nil, List.map_cons, Option.toList_some, Option.toList_none, false_and, and_false, Bool.not_eq_true, Bool.or_false, Bool.or_true, Bool.and_true, Bool.and_false, n8]
      rw [e_law_4]
      simp (maxSteps := 5000000) only [wSeq, wIfS, wRet, wRetN, wNext, wBreak, wCont, wNever, wSet, wAsg, wPar, wExpr, wFor, wApp, wPop, wSetIx, wVar, wBor, wTake, wC, wBin, wNil, wCons, wPrim, wCall, wTup, wLst, wSl, wNone, wSome, wM0, wM1, wB, wAndT, wOrT, wNotT, wAndV, wOrV, wNotV, wIf, wIsi, wIsi2, wNeg, wChain, wSortedSet, X_txl, X_txt, wIt, wIt.rdf, wRng1, wRng2, wLc, wYes, lcS, wipeG, backG, noMut, rd_d, rd_o, rd_b, rdf_d, rdf_o, fz_d, fz_o, fz_b, sl_d, sl_o, ok_d, ok_o, argSl_d, argSl_o, argSl_b, items_l, items_t, items_s, rds, rdF, stOk_eq, ncO_some, nc_v, nc_own, nc_no, stOks, setAll, wG, mutAt, putAt, Sl.mu, Sl.put, argSls, noB, fewB, putB, endP, cellsOf, cellF, List.getElem?_cons_zero, List.getElem?_cons_succ, List.getElem?_nil, List.set_cons_zero, List.set_cons_succ, List.append_eq, List.nil_append, List.cons_append, List.replicate, List.take_succ_cons, List.take_zero, List.take_nil, List.filterMap_cons, List.filterMap_nil, Option.map_some, Option.map_none, List.length_cons, List.length_nil, F_add_i, F_add_s, F_add_l, F_add_t, F_int, F_cmp_i, F_cmp_s, F_in_l, F_in_t, F_in_s, F_ix_l, F_ix_t, F_ix_s, F_sl_l, F_sl_t, F_sl_s, F_len_l, F_len_t, F_len_s, F_toInt, F_toStr, F_toTup_l, F_toTup_t, F_toLst_l, F_toLst_t, F_all, F_any, F_split, F_join_l, F_join_t, F_part, F_start, F_end, F_strip, F_sorted_l, F_sorted_t, N_none, N_str, N_int, N_bool, N_tup, N_lst, S_str, S_none, S_int, S_bool, S_tup, S_lst, I_str, I_none, I_int, I_bool, I_tup, I_lst, B_str, B_none, B_int, B_bool, B_tup, B_lst, T_str, T_none, T_int, T_bool, T_tup, T_lst, L_str, L_none, L_int, L_bool, L_tup, L_lst, D_str, D_none, D_int, D_bool, D_tup, D_lst, N_dic, S_dic, I_dic, B_dic, T_dic, L_dic, D_dic, E_ss, E_ii, E_bb, E_ns, E_is, E_bs, E_nn, isA_str, isA_int, isA_bool, isA_tuple, isA_list, isA_dict, fEq, fNe, fIsN, fNotN, eqv_str, eqv_int, eqv_bool, exists_eq_left', exists_eq_left, exists_and_left, R.d.injEq, R.o.injEq, PyData.bool.injEq, PyData.str.injEq, PyData.int.injEq, PyData.tuple.injEq, PyData.list.injEq, List.cons.injEq, Option.some.injEq, and_true, true_and, and_self, Bool.not_true, Bool.not_false, Bool.false_eq_true, Bool.true_eq_false, Bool.true_and, Bool.false_and, Bool.true_or, Bool.false_or, if_true, if_false, reduceIte, reduceCtorEq, not_false_eq_true, ne_eq, true_or, or_true, false_or, or_false, List.map_nil, List.map_cons, Option.toList_some, Option.toList_none, false_and, and_false, Bool.not_eq_true, Bool.or_false, Bool.or_true, Bool.and_true, Bool.and_false, n7, n8, n9]
      refine ⟨_, _, s, t, false, 15, rfl, says, hs, sayV_self ti, by omega, ?_⟩
      simp (maxSteps := 5000000) only [wSeq, wIfS, wRet, wRetN, wNext, wBreak, wCont, wNever, wSet, wAsg, wPar, wExpr, wFor, wApp, wPop, wSetIx, wVar, wBor, wTake, wC, wBin, wNil, wCons, wPrim, wCall, wTup, wLst, wSl, wNone, wSome, wM0, wM1, wB, wAndT, wOrT, wNotT, wAndV, wOrV, wNotV, wIf, wIsi, wIsi2, wNeg, wChain, wSortedSet, X_txl, X_txt, wIt, wIt.rdf, wRng1, wRng2, wLc, wYes, lcS, wipeG, backG, noMut, rd_d, rd_o, rd_b, rdf_d, rdf_o, fz_d, fz_o, fz_b, sl_d, sl_o, ok_d, ok_o, argSl_d, argSl_o, argSl_b, items_l, items_t, items_s, rds, rdF, stOk_eq, ncO_some, nc_v, nc_own, nc_no, stOks, setAll, wG, mutAt, putAt, Sl.mu, Sl.put, argSls, noB, fewB, putB, endP, cellsOf, cellF, List.getElem?_cons_zero, List.getElem?_cons_succ, List.getElem?_nil, List.set_cons_zero, List.set_cons_succ, List.append_eq, List.nil_append, List.cons_append, List.replicate, List.take_succ_cons, List.take_zero, List.take_nil, List.filterMap_cons, List.filterMap_nil, Option.map_some, Option.map_none, List.length_cons, List.length_nil, F_add_i, F_add_s, F_add_l, F_add_t, F_int, F_cmp_i, F_cmp_s, F_in_l, F_in_t, F_in_s, F_ix_l, F_ix_t, F_ix_s, F_sl_l, F_sl_t, F_sl_s, F_len_l, F_len_t, F_len_s, F_toInt, F_toStr, F_toTup_l, F_toTup_t, F_toLst_l, F_toLst_t, F_all, F_any, F_split, F_join_l, F_join_t, F_part, F_start, F_end, F_strip, F_sorted_l, F_sorted_t, N_none, N_str, N_int, N_bool, N_tup, N_lst, S_str, S_none, S_int, S_bool, S_tup, S_lst, I_str, I_none, I_int, I_bool, I_tup, I_lst, B_str, B_none, B_int, B_bool, B_tup, B_lst, T_str, T_none, T_int, T_bool, T_tup, T_lst, L_str, L_none, L_int, L_bool, L_tup, L_lst, D_str, D_none, D_int, D_bool, D_tup, D_lst, N_dic, S_dic, I_dic, B_dic, T_dic, L_dic, D_dic, E_ss, E_ii, E_bb, E_ns, E_is, E_bs, E_nn, isA_str, isA_int, isA_bool, isA_tuple, isA_list, isA_dict, fEq, fNe, fIsN, fNotN, eqv_str, eqv_int, eqv_bool, exists_eq_left', exists_eq_left, exists_and_left, R.d.injEq, R.o.injEq, PyData.bool.injEq, PyData.str.injEq, PyData.int.injEq, PyData.tuple.injEq, PyData.list.injEq, List.cons.injEq, Option.some.injEq, and_true, true_and, and_self, Bool.not_true, Bool.not_false, Bool.false_eq_true, Bool.true_eq_false, Bool.true_and, Bool.false_and, Bool.true_or, Bool.false_or, if_true, if_false, reduceIte, reduceCtorEq, not_false_eq_true, ne_eq, true_or, or_true, false_or, or_false, List.map_nil, List.map_cons, Option.toList_some, Option.toList_none, false_and, and_false, Bool.not_eq_true, Bool.or_false, Bool.or_true, Bool.and_true, Bool.and_false, n9]
      rw [e_law_3]
      simp (maxSteps := 5000000) only [wSeq, wIfS, wRet, wRetN, wNext, wBreak, wCont, wNever, wSet, wAsg, wPar, wExpr, wFor, wApp, wPop, wSetIx, wVar, wBor, wTake, wC, wBin, wNil, wCons, wPrim, wCall, wTup, wLst, wSl, wNone, wSome, wM0, wM1, wB, wAndT, wOrT, wNotT, wAndV, wOrV, wNotV, wIf, wIsi, wIsi2, wNeg, wChain, wSortedSet, X_txl, X_txt, wIt, wIt.rdf, wRng1, wRng2, wLc, wYes, lcS, wipeG, backG, noMut, rd_d, rd_o, rd_b, rdf_d, rdf_o, fz_d, fz_o, fz_b, sl_d, sl_o, ok_d, ok_o, argSl_d, argSl_o, argSl_b, items_l, items_t, items_s, rds, rdF, stOk_eq, ncO_some, nc_v, nc_own, nc_no, stOks, setAll, wG, mutAt, putAt, Sl.mu, Sl.put, argSls, noB, fewB, putB, endP, cellsOf, cellF, List.getElem?_cons_zero, List.getElem?_cons_succ, List.getElem?_nil, List.set_cons_zero, List.set_cons_succ, List.append_eq, List.nil_append, List.cons_append, List.replicate, List.take_succ_cons, List.take_zero, List.take_nil, List.filterMap_cons, List.filterMap_nil, Option.map_some, Option.map_none, List.length_cons, List.length_nil, F_add_i, F_add_s, F_add_l, F_add_t, F_int, F_cmp_i, F_cmp_s, F_in_l, F_in_t, F_in_s, F_ix_l, F_ix_t, F_ix_s, F_sl_l, F_sl_t, F_sl_s, F_len_l, F_len_t, F_len_s, F_toInt, F_toStr, F_toTup_l, F_toTup_t, F_toLst_l, F_toLst_t, F_all, F_any, F_split, F_join_l, F_join_t, F_part, F_start, F_end, F_strip, F_sorted_l, F_sorted_t, N_none, N_str, N_int, N_bool, N_tup, N_lst, S_str, S_none, S_int, S_bool, S_tup, S_lst, I_str, I_none, I_int, I_bool, I_tup, I_lst, B_str, B_none, B_int, B_bool, B_tup, B_lst, T_str, T_none, T_int, T_bool, T_tup, T_lst, L_str, L_none, L_int, L_bool, L_tup, L_lst, D_str, D_none, D_int, D_bool, D_tup, D_lst, N_dic, S_dic, I_dic, B_dic, T_dic, L_dic, D_dic, E_ss, E_ii, E_bb, E_ns, E_is, E_bs, E_nn, isA_str, isA_int, isA_bool, isA_tuple, isA_list, isA_dict, fEq, fNe, fIsN, fNotN, eqv_str, eqv_int, eqv_bool, exists_eq_left', exists_eq_left, exists_and_left, R.d.injEq, R.o.injEq, PyData.bool.injEq, PyData.str.injEq, PyData.int.injEq, PyData.tuple.injEq, PyData.list.injEq, List.cons.injEq, Option.some.injEq, and_true, true_and, and_self, Bool.not_true, Bool.not_false, Bool.false_eq_true, Bool.true_eq_false, Bool.true_and, Bool.false_and, Bool.true_or, Bool.false_or, if_true, if_false, reduceIte, reduceCtorEq, not_false_eq_true, ne_eq, true_or, or_true, false_or, or_false, List.map_nil, List.map_cons, Option.toList_some, Option.toList_none, false_and, and_false, Bool.not_eq_true, Bool.or_false, Bool.or_true, Bool.and_true, Bool.and_false]
      refine ⟨f, t, 15, rfl, hf15, by omega, ?_⟩
      simp (maxSteps := 5000000) only [wSeq, wIfS, wRet, wRetN, wNext, wBreak, wCont, wNever, wSet, wAsg, wPar, wExpr, wFor, wApp, wPop, wSetIx, wVar, wBor, wTake, wC, wBin, wNil, wCons, wPrim, wCall, wTup, wLst, wSl, wNone, wSome, wM0, wM1, wB, wAndT, wOrT, wNotT, wAndV, wOrV, wNotV, wIf, wIsi, wIsi2, wNeg, wChain, wSortedSet, X_txl, X_txt, wIt, wIt.rdf, wRng1, wRng2, wLc, wYes, lcS, wipeG, backG, noMut, rd_d, rd_o, rd_b, rdf_d, rdf_o, fz_d, fz_o, fz_b, sl_d, sl_o, ok_d, ok_o, argSl_d, argSl_o, argSl_b, items_l, items_t, items_s, rds, rdF, stOk_eq, ncO_some, nc_v, nc_own, nc_no, stOks, setAll, wG, mutAt, putAt, Sl.mu, Sl.put, argSls, noB, fewB, putB, endP, cellsOf, cellF, List.getElem?_cons_zero, List.getElem?_cons_succ, List.getElem?_nil, List.set_cons_zero, List.set_cons_succ, List.append_eq, List.nil_append, List.cons_append, List.replicate, List.take_succ_cons, List.take_zero, List.take_nil, List.filterMap_cons, List.filterMap_nil, Option.map_some, Option.map_none, List.length_cons, List.length_nil, F_add_i, F_add_s, F_add_l, F_add_t, F_int, F_cmp_i, F_cmp_s, F_in_l, F_in_t, F_in_s, F_ix_l, F_ix_t, F_ix_s, F_sl_l, F_sl_t, F_sl_s, F_len_l, F_len_t, F_len_s, F_toInt, F_toStr, F_toTup_l, F_toTup_t, F_toLst_l, F_toLst_t, F_all, F_any, F_split, F_join_l, F_join_t, F_part, F_start, F_end, F_strip, F_sorted_l, F_sorted_t, N_none, N_str, N_int, N_bool, N_tup, N_lst, S_str, S_none, S_int, S_bool, S_tup, S_lst, I_str, I_none, I_int, I_bool, I_tup, I_lst, B_str, B_none, B_int, B_bool, B_tup, B_lst, T_str, T_none, T_int, T_bool, T_tup, T_lst, L_str, L_none, L_int, L_bool, L_tup, L_lst, D_str, D_none, D_int, D_bool, D_tup, D_lst, N_dic, S_dic, I_dic, B_dic, T_dic, L_dic, D_dic, E_ss, E_ii, E_bb, E_ns, E_is, E_bs, E_nn, isA_str, isA_int, isA_bool, isA_tuple, isA_list, isA_dict, fEq, fNe, fIsN, fNotN, eqv_str, eqv_int, eqv_bool, exists_eq_left', exists_eq_left, exists_and_left, R.d.injEq, R.o.injEq, PyData.bool.injEq, PyData.str.injEq, PyData.int.injEq, PyData.tuple.injEq, PyData.list.injEq, List.cons.injEq, Option.some.injEq, and_true, true_and, and_self, Bool.not_true, Bool.not_false, Bool.false_eq_true, Bool.true_eq_false, Bool.true_and, Bool.false_and, Bool.true_or, Bool.false_or, if_true, if_false, reduceIte, reduceCtorEq, not_false_eq_true, ne_eq, true_or, or_true, false_or, or_false, List.map_nil, List.map_cons, Option.toList_some, Option.toList_none, false_and, and_false, Bool.not_eq_true, Bool.or_false, Bool.or_true, Bool.and_true, Bool.and_false, fl1, fx1]
      refine ⟨by decide, vbD (f.ac t false), vbD (f.ac t false), rfl, hv1.1, hv1.2.1, ?_⟩
      rw [so_refl _ hv1.2.2]
      simp (maxSteps := 5000000) only [wSeq, wIfS, wRet, wRetN, wNext, wBreak, wCont, wNever, wSet, wAsg, wPar, wExpr, wFor, wApp, wPop, wSetIx, wVar, wBor, wTake, wC, wBin, wNil, wCons, wPrim, wCall, wTup, wLst, wSl, wNone, wSome, wM0, wM1, wB, wAndT, wOrT, wNotT, wAndV, wOrV, wNotV, wIf, wIsi, wIsi2, wNeg, wChain, wSortedSet, X_txl, X_txt, wIt, wIt.rdf, wRng1, wRng2, wLc, wYes, lcS, wipeG, backG, noMut, rd_d, rd_o, rd_b, rdf_d, rdf_o, fz_d, fz_o, fz_b, sl_d, sl_o, ok_d, ok_o, argSl_d, argSl_o, argSl_b, items_l, items_t, items_s, rds, rdF, stOk_eq, ncO_some, nc_v, nc_own, nc_no, stOks, setAll, wG, mutAt, putAt, Sl.mu, Sl.put, argSls, noB, fewB, putB, endP, cellsOf, cellF, List.getElem?_cons_zero, List.getElem?_cons_succ, List.getElem?_nil, List.set_cons_zero, List.set_cons_succ, List.append_eq, List.nil_append, List.cons_append, List.replicate, List.take_succ_cons, List.take_zero, List.take_nil, List.filterMap_cons, List.filterMap_nil, Option.map_some, Option.map_none, List.length_cons, List.length_nil, F_add_i, F_add_s, F_add_l, F_add_t, F_int, F_cmp_i, F_cmp_s, F_in_l, F_in_t, F_in_s, F_ix_l, F_ix_t, F_ix_s, F_sl_l, F_sl_t, F_sl_s, F_len_l, F_len_t, F_len_s, F_toInt, F_toStr, F_toTup_l, F_toTup_t, F_toLst_l, F_toLst_t, F_all, F_any, F_split, F_join_l, F_join_t, F_part, F_start, F_end, F_strip, F_sorted_l, F_sorted_t, N_none, N_str, N_int, N_bool, N_tup, N_lst, S_str, S_none, S_int, S_bool, S_tup, S_lst, I_str, I_none, I_int, I_bool, I_tup, I_lst, B_str, B_none, B_int, B_bool, B_tup, B_lst, T_str, T_none, T_int, T_bool, T_tup, T_lst, L_str, L_none, L_int, L_bool, L_tup, L_lst, D_str, D_none, D_int, D_bool, D_tup, D_lst, N_dic, S_dic, I_dic, B_dic, T_dic, L_dic, D_dic, E_ss, E_ii, E_bb, E_ns, E_is, E_bs, E_nn, isA_str, isA_int, isA_bool, isA_tuple, isA_list, isA_dict, fEq, fNe, fIsN, fNotN, eqv_str, eqv_int, eqv_bool, exists_eq_left', exists_eq_left, exists_and_left, R.d.injEq, R.o.injEq, PyData.bool.injEq, PyData.str.injEq, PyData.int.injEq, PyData.tuple.injEq, PyData.list.injEq, List.cons.injEq, Option.some.injEq, and_true, true_and, and_self, Bool.not_true, Bool.not_false, Bool.false_eq_true, Bool.true_eq_false, Bool.true_and, Bool.false_and, Bool.true_or, Bool.false_or, if_true, if_false, reduceIte, reduceCtorEq, not_false_eq_true, ne_eq, true_or, or_true, false_or, or_false, List.map_nil, List.map_cons, Option.toList_some, Option.toList_none, false_and, and_false, Bool.not_eq_true, Bool.or_false, Bool.or_true, Bool.and_true, Bool.and_false]
      refine ⟨s, t, 15, rfl, hs, by omega, ?_⟩
      simp (maxSteps := 5000000) only [wSeq, wIfS, wRet, wRetN, wNext, wBreak, wCont, wNever, wSet, wAsg, wPar, wExpr, wFor, wApp, wPop, wSetIx, wVar, wBor, wTake, wC, wBin, wNil, wCons, wPrim, wCall, wTup, wLst, wSl, wNone, wSome, wM0, wM1, wB, wAndT, wOrT, wNotT, wAndV, wOrV, wNotV, wIf, wIsi, wIsi2, wNeg, wChain, wSortedSet, X_txl, X_txt, wIt, wIt.rdf, wRng1, wRng2, wLc, wYes, lcS, wipeG, backG, noMut, rd_d, rd_o, rd_b, rdf_d, rdf_o, fz_d, fz_o, fz_b, sl_d, sl_o, ok_d, ok_o, argSl_d, argSl_o, argSl_b, items_l, items_t, items_s, rds, rdF, stOk_eq, ncO_some, nc_v, nc_own, nc_no, stOks, setAll, wG, mutAt, putAt, Sl.mu, Sl.put, argSls, noB, fewB, putB, endP, cellsOf, cellF, List.getElem?_cons_zero, List.getElem?_cons_succ, List.getElem?_nil, List.set_cons_zero, List.set_cons_succ, List.append_eq, List.nil_append, List.cons_append, List.replicate, List.take_succ_cons, List.take_zero, List.take_nil, List.filterMap_cons, List.filterMap_nil, Option.map_some, Option.map_none, List.length_cons, List.length_nil, F_add_i, F_add_s, F_add_l, F_add_t, F_int, F_cmp_i, F_cmp_s, F_in_l, F_in_t, F_in_s, F_ix_l, F_ix_t, F_ix_s, F_sl_l, F_sl_t, F_sl_s, F_len_l, F_len_t, F_len_s, F_toInt, F_toStr, F_toTup_l, F_toTup_t, F_toLst_l, F_toLst_t, F_all, F_any, F_split, F_join_l, F_join_t, F_part, F_start, F_end, F_strip, F_sorted_l, F_sorted_t, N_none, N_str, N_int, N_bool, N_tup, N_lst, S_str, S_none, S_int, S_bool, S_tup, S_lst, I_str, I_none, I_int, I_bool, I_tup, I_lst, B_str, B_none, B_int, B_bool, B_tup, B_lst, T_str, T_none, T_int, T_bool, T_tup, T_lst, L_str, L_none, L_int, L_bool, L_tup, L_lst, D_str, D_none, D_int, D_bool, D_tup, D_lst, N_dic, S_dic, I_dic, B_dic, T_dic, L_dic, D_dic, E_ss, E_ii, E_bb, E_ns, E_is, E_bs, E_nn, isA_str, isA_int, isA_bool, isA_tuple, isA_list, isA_dict, fEq, fNe, fIsN, fNotN, eqv_str, eqv_int, eqv_bool, exists_eq_left', exists_eq_left, exists_and_left, R.d.injEq, R.o.injEq, PyData.bool.injEq, PyData.str.injEq, PyData.int.injEq, PyData.tuple.injEq, PyData.list.injEq, List.cons.injEq, Option.some.injEq, and_true, true_and, and_self, Bool.not_true, Bool.not_false, Bool.false_eq_true, Bool.true_eq_false, Bool.true_and, Bool.false_and, Bool.true_or, Bool.false_or, if_true, if_false, reduceIte, reduceCtorEq, not_false_eq_true, ne_eq, true_or, or_true, false_or, or_false, List.map_nil, List.map_cons, Option.toList_some, Option.toList_none, false_and, and_false, Bool.not_eq_true, Bool.or_false, Bool.or_true, Bool.and_true, Bool.and_false, fl2, fx2]
      refine ⟨by decide, vbD (s.ac t false), vbD (s.ac t false), rfl, hv2.1, hv2.2.1, ?_⟩
      rw [so_refl _ hv2.2.2]
      simp (maxSteps := 5000000) only [wSeq, wIfS, wRet, wRetN, wNext, wBreak, wCont, wNever, wSet, wAsg, wPar, wExpr, wFor, wApp, wPop, wSetIx, wVar, wBor, wTake, wC, wBin, wNil, wCons, wPrim, wCall, wTup, wLst, wSl, wNone, wSome, wM0, wM1, wB, wAndT, wOrT, wNotT, wAndV, wOrV, wNotV, wIf, wIsi, wIsi2, wNeg, wChain, wSortedSet, X_txl, X_txt, wIt, wIt.rdf, wRng1, wRng2, wLc, wYes, lcS, wipeG, backG, noMut, rd_d, rd_o, rd_b, rdf_d, rdf_o, fz_d, fz_o, fz_b, sl_d, sl_o, ok_d, ok_o, argSl_d, argSl_o, argSl_b, items_l, items_t, items_s, rds, rdF, stOk_eq, ncO_some, nc_v, nc_own, nc_no, stOks, setAll, wG, mutAt, putAt, Sl.mu, Sl.put, argSls, noB, fewB, putB, endP, cellsOf, cellF, List.getElem?_cons_zero, List.getElem?_cons_succ, List.getElem?_nil, List.set_cons_zero, List.set_cons_succ, List.append_eq, List.nil_append, List.cons_append, List.replicate, List.take_succ_cons, List.take_zero, List.take_nil, List.filterMap_cons, List.filterMap_nil, Option.map_some, Option.map_none, List.length_cons, List.length_nil, F_add_i, F_add_s, F_add_l, F_add_t, F_int, F_cmp_i, F_cmp_s, F_in_l, F_in_t, F_in_s, F_ix_l, F_ix_t, F_ix_s, F_sl_l, F_sl_t, F_sl_s, F_len_l, F_len_t, F_len_s, F_toInt, F_toStr, F_toTup_l, F_toTup_t, F_toLst_l, F_toLst_t, F_all, F_any, F_split, F_join_l, F_join_t, F_part, F_start, F_end, F_strip, F_sorted_l, F_sorted_t, N_none, N_str, N_int, N_bool, N_tup, N_lst, S_str, S_none, S_int, S_bool, S_tup, S_lst, I_str, I_none, I_int, I_bool, I_tup, I_lst, B_str, B_none, B_int, B_bool, B_tup, B_lst, T_str, T_none, T_int, T_bool, T_tup, T_lst, L_str, L_none, L_int, L_bool, L_tup, L_lst, D_str, D_none, D_int, D_bool, D_tup, D_lst, N_dic, S_dic, I_dic, B_dic, T_dic, L_dic, D_dic, E_ss, E_ii, E_bb, E_ns, E_is, E_bs, E_nn, isA_str, isA_int, isA_bool, isA_tuple, isA_list, isA_dict, fEq, fNe, fIsN, fNotN, eqv_str, eqv_int, eqv_bool, exists_eq_left', exists_eq_left, exists_and_left, R.d.injEq, R.o.injEq, PyData.bool.injEq, PyData.str.injEq, PyData.int.injEq, PyData.tuple.injEq, PyData.list.injEq, List.cons.injEq, Option.some.injEq, and_true, true_and, and_self, Bool.not_true, Bool.not_false, Bool.false_eq_true, Bool.true_eq_false, Bool.true_and, Bool.false_and, Bool.true_or, Bool.false_or, if_true, if_false, reduceIte, reduceCtorEq, not_false_eq_true, ne_eq, true_or, or_true, false_or, or_false, List.map_nil, List.map_cons, Option.toList_some, Option.toList_none, false_and, and_false, Bool.not_eq_true, Bool.or_false, Bool.or_true, Bool.and_true, Bool.and_false]
      rw [e_law_2]
      simp (maxSteps := 5000000) only [wSeq, wIfS, wRet, wRetN, wNext, wBreak, wCont, wNever, wSet, wAsg, wPar, wExpr, wFor, wApp, wPop, wSetIx, wVar, wBor, wTake, wC, wBin, wNil, wCons, wPrim, wCall, wTup, wLst, wSl, wNone, wSome, wM0, wM1, wB, wAndT, wOrT, wNotT, wAndV, wOrV, wNotV, wIf, wIsi, wIsi2, wNeg, wChain, wSortedSet, X_txl, X_txt, wIt, wIt.rdf, wRng1, wRng2, wLc, wYes, lcS, wipeG, backG, noMut, rd_d, rd_o, rd_b, rdf_d, rdf_o, fz_d, fz_o, fz_b, sl_d, sl_o, ok_d, ok_o, argSl_d, argSl_o, argSl_b, items_l, items_t, items_s, rds, rdF, stOk_eq, ncO_some, nc_v, nc_own, nc_no, stOks, setAll, wG, mutAt, putAt, Sl.mu, Sl.put, argSls, noB, fewB, putB, endP, cellsOf, cellF, List.getElem?_cons_zero, List.getElem?_cons_succ, List.getElem?_nil, List.set_cons_zero, List.set_cons_succ, List.append_eq, List.nil_append, List.cons_append, List.replicate, List.take_succ_cons, List.take_zero, List.take_nil, List.filterMap_cons, List.filterMap_nil, Option.map_some, Option.map_none, List.length_cons, List.length_nil, F_add_i, F_add_s, F_add_l, F_add_t, F_int, F_cmp_i, F_cmp_s, F_in_l, F_in_t, F_in_s, F_ix_l, F_ix_t, F_ix_s, F_sl_l, F_sl_t, F_sl_s, F_len_l, F_len_t, F_len_s, F_toInt, F_toStr, F_toTup_l, F_toTup_t, F_toLst_l, F_toLst_t, F_all, F_any, F_split, F_join_l, F_join_t, F_part, F_start, F_end, F_strip, F_sorted_l, F_sorted_t, N_none, N_str, N_int, N_bool, N_tup, N_lst, S_str, S_none, S_int, S_bool, S_tup, S_lst, I_str, I_none, I_int, I_bool, I_tup, I_lst, B_str, B_none, B_int, B_bool, B_tup, B_lst, T_str, T_none, T_int, T_bool, T_tup, T_lst, L_str, L_none, L_int, L_bool, L_tup, L_lst, D_str, D_none, D_int, D_bool, D_tup, D_lst, N_dic, S_dic, I_dic, B_dic, T_dic, L_dic, D_dic, E_ss, E_ii, E_bb, E_ns, E_is, E_bs, E_nn, isA_str, isA_int, isA_bool, isA_tuple, isA_list, isA_dict, fEq, fNe, fIsN, fNotN, eqv_str, eqv_int, eqv_bool, exists_eq_left', exists_eq_left, exists_and_left, R.d.injEq, R.o.injEq, PyData.bool.injEq, PyData.str.injEq, PyData.int.injEq, PyData.tuple.injEq, PyData.list.injEq, List.cons.injEq, Option.some.injEq, and_true, true_and, and_self, Bool.not_true, Bool.not_false, Bool.false_eq_true, Bool.true_eq_false, Bool.true_and, Bool.false_and, Bool.true_or, Bool.false_or, if_true, if_false, reduceIte, reduceCtorEq, not_false_eq_true, ne_eq, true_or, or_true, false_or, or_false, List.map_nil, List.map_cons, Option.toList_some, Option.toList_none, false_and, and_false, Bool.not_eq_true, Bool.or_false, Bool.or_true, Bool.and_true, Bool.and_false]
      refine ⟨eqOk_sd ⟨hv1.2.1, Nat.le_of_lt (Nat.lt_trans hv1.1 (by decide))⟩ ⟨hv2.2.1, Nat.le_of_lt (Nat.lt_trans hv2.1 (by decide))⟩, ?_⟩
      have hd : diffB f s t = !PyData.eqv (vbD (f.ac t false)) (vbD (s.ac t false)) := rfl
      cases hq : PyData.eqv (vbD (f.ac t false)) (vbD (s.ac t false)) with
      | true =>
        rw [hq] at hd
        rw [hd, Bool.not_true, Bool.or_false] at hN
        simp only [exists_eq_left', exists_eq_left, exists_and_left, R.d.injEq, R.o.injEq, PyData.bool.injEq, PyData.str.injEq, PyData.int.injEq, PyData.tuple.injEq, PyData.list.injEq, List.cons.injEq, Option.some.injEq, and_true, true_and, and_self, Bool.not_true, Bool.not_false, Bool.false_eq_true, Bool.true_eq_false, Bool.true_and, Bool.false_and, Bool.true_or, Bool.false_or, if_true, if_false, reduceIte, reduceCtorEq, not_false_eq_true, ne_eq, true_or, or_true, false_or, or_false, List.map_nil, List.map_cons, Option.toList_some, Option.toList_none, false_and, and_false, Bool.not_eq_true, Bool.or_false, Bool.or_true, Bool.and_true, Bool.and_false]
        exact hN _ _ _ (by exact trivial) (by exact trivial) (by exact trivial)
      | false =>
        rw [hq] at hd
        rw [hd, Bool.not_false, Bool.or_true] at hN
        simp only [exists_eq_left', exists_eq_left, exists_and_left, R.d.injEq, R.o.injEq, PyData.bool.injEq, PyData.str.injEq, PyData.int.injEq, PyData.tuple.injEq, PyData.list.injEq, List.cons.injEq, Option.some.injEq, and_true, true_and, and_self, Bool.not_true, Bool.not_false, Bool.false_eq_true, Bool.true_eq_false, Bool.true_and, Bool.false_and, Bool.true_or, Bool.false_or, if_true, if_false, reduceIte, reduceCtorEq, not_false_eq_true, ne_eq, true_or, or_true, false_or, or_false, List.map_nil, List.map_cons, Option.toList_some, Option.toList_none, false_and, and_false, Bool.not_eq_true, Bool.or_false, Bool.or_true, Bool.and_true, Bool.and_false]
        exact hN _ _ _ (by exact trivial) (by exact trivial) (by exact trivial)
    · rintro _ ⟨e7, e8, e9, n7, n8, n9, rfl⟩
      rw [hall]
      rw [e_law_6]
      simp (maxSteps := 5000000) only [wSeq, wIfS, wRet, wRetN, wNext, wBreak, wCont, wNever, wSet, wAsg, wPar, wExpr, wFor, wApp, wPop, wSetIx, wVar, wBor, wTake, wC, wBin, wNil, wCons, wPrim, wCall, wTup, wLst, wSl, wNone, wSome, wM0, wM1, wB, wAndT, wOrT, wNotT, wAndV, wOrV, wNotV, wIf, wIsi, wIsi2, wNeg, wChain, wSortedSet, X_txl, X_txt, wIt, wIt.rdf, wRng1, wRng2, wLc, wYes, lcS, wipeG, backG, noMut, rd_d, rd_o, rd_b, rdf_d, rdf_o, fz_d, fz_o, fz_b, sl_d, sl_o, ok_d, ok_o, argSl_d, argSl_o, argSl_b, items_l, items_t, items_s, rds, rdF, stOk_eq, ncO_some, nc_v, nc_own, nc_no, stOks, setAll, wG, mutAt, putAt, Sl.mu, Sl.put, argSls, noB, fewB, putB, endP, cellsOf, cellF, List.getElem?_cons_zero, List.getElem?_cons_succ, List.getElem?_nil, List.set_cons_zero, List.set_cons_succ, List.append_eq, List.nil_append, List.cons_append, List.replicate, List.take_succ_cons, List.take_zero, List.take_nil, List.filterMap_cons, List.filterMap_nil, Option.map_some, Option.map_none, List.length_cons, List.length_nil, F_add_i, F_add_s, F_add_l, F_add_t, F_int, F_cmp_i, F_cmp_s, F_in_l, F_in_t, F_in_s, F_ix_l, F_ix_t, F_ix_s, F_sl_l, F_sl_t, F_sl_s, F_len_l, F_len_t, F_len_s, F_toInt, F_toStr, F_toTup_l, F_toTup_t, F_toLst_l, F_toLst_t, F_all, F_any, F_split, F_join_l, F_join_t, F_part, F_start, F_end, F_strip, F_sorted_l, F_sorted_t, N_none, N_str, N_int, N_bool, N_tup, N_lst, S_str, S_none, S_int, S_bool, S_tup, S_lst, I_str, I_none, I_int, I_bool, I_tup, I_lst, B_str, B_none, B_int, B_bool, B_tup, B_lst, T_str, T_none, T_int, T_bool, T_tup, T_lst, L_str, L_none, L_int, L_bool, L_tup, L_lst, D_str, D_none, D_int, D_bool, D_tup, D_lst, N_dic, S_dic, I_dic, B_dic, T_dic, L_dic, D_dic, E_ss, E_ii, E_bb, E_ns, E_is, E_bs, E_nn, isA_str, isA_int, isA_bool, isA_tuple, isA_list, isA_dict, fEq, fNe, fIsN, fNotN, eqv_str, eqv_int, eqv_bool, exists_eq_left', exists_eq_left, exists_and_left, R.d.injEq, R.o.injEq, PyData.bool.injEq, PyData.str.injEq, PyData.int.injEq, PyData.tuple.injEq, PyData.list.injEq, List.cons.injEq, Option.some.injEq, and_true, true_and, and_self, Bool.not_true, Bool.not_false, Bool.false_eq_true, Bool.true_eq_false, Bool.true_and, Bool.false_and, Bool.true_or, Bool.false_or, if_true, if_false, reduceIte, reduceCtorEq, not_false_eq_true, ne_eq, true_or, or_true, false_or, or_false, List.map_nil, List.map_cons, Option.toList_some, Option.toList_none, false_and, and_false, Bool.not_eq_true, Bool.or_false, Bool.or_true, Bool.and_true, Bool.and_false, beq_self_eq_true]
      exact ⟨eqOk_sd sayf.sd says.sd, h⟩
  rw [e_law_9]
  simp (maxSteps := 5000000) only [wSeq, wIfS, wRet, wRetN, wNext, wBreak, wCont, wNever, wSet, wAsg, wPar, wExpr, wFor, wApp, wPop, wSetIx, wVar, wBor, wTake, wC, wBin, wNil, wCons, wPrim, wCall, wTup, wLst, wSl, wNone, wSome, wM0, wM1, wB, wAndT, wOrT, wNotT, wAndV, wOrV, wNotV, wIf, wIsi, wIsi2, wNeg, wChain, wSortedSet, X_txl, X_txt, wIt, wIt.rdf, wRng1, wRng2, wLc, wYes, lcS, wipeG, backG, noMut, rd_d, rd_o, rd_b, rdf_d, rdf_o, fz_d, fz_o, fz_b, sl_d, sl_o, ok_d, ok_o, argSl_d, argSl_o, argSl_b, items_l, items_t, items_s, rds, rdF, stOk_eq, ncO_some, nc_v, nc_own, nc_no, stOks, setAll, wG, mutAt, putAt, Sl.mu, Sl.put, argSls, noB, fewB, putB, endP, cellsOf, cellF, List.getElem?_cons_zero, List.getElem?_cons_succ, List.getElem?_nil, List.set_cons_zero, List.set_cons_succ, List.append_eq, List.nil_append, List.cons_append, List.replicate, List.take_succ_cons, List.take_zero, List.take_nil, List.filterMap_cons, List.filterMap_nil, Option.map_some, Option.map_none, List.length_cons, List.length_nil, F_add_i, F_add_s, F_add_l, F_add_t, F_int, F_cmp_i, F_cmp_s, F_in_l, F_in_t, F_in_s, F_ix_l, F_ix_t, F_ix_s, F_sl_l, F_sl_t, F_sl_s, F_len_l, F_len_t, F_len_s, F_toInt, F_toStr, F_toTup_l, F_toTup_t, F_toLst_l, F_toLst_t, F_all, F_any, F_split, F_join_l, F_join_t, F_part, F_start, F_end, F_strip, F_sorted_l, F_sorted_t, N_none, N_str, N_int, N_bool, N_tup, N_lst, S_str, S_none, S_int, S_bool, S_tup, S_lst, I_str, I_none, I_int, I_bool, I_tup, I_lst, B_str, B_none, B_int, B_bool, B_tup, B_lst, T_str, T_none, T_int, T_bool, T_tup, T_lst, L_str, L_none, L_int, L_bool, L_tup, L_lst, D_str, D_none, D_int, D_bool, D_tup, D_lst, N_dic, S_dic, I_dic, B_dic, T_dic, L_dic, D_dic, E_ss, E_ii, E_bb, E_ns, E_is, E_bs, E_nn, isA_str, isA_int, isA_bool, isA_tuple, isA_list, isA_dict, fEq, fNe, fIsN, fNotN, eqv_str, eqv_int, eqv_bool, exists_eq_left', exists_eq_left, exists_and_left, R.d.injEq, R.o.injEq, PyData.bool.injEq, PyData.str.injEq, PyData.int.injEq, PyData.tuple.injEq, PyData.list.injEq, List.cons.injEq, Option.some.injEq, and_true, true_and, and_self, Bool.not_true, Bool.not_false, Bool.false_eq_true, Bool.true_eq_false, Bool.true_and, Bool.false_and, Bool.true_or, Bool.false_or, if_true, if_false, reduceIte, reduceCtorEq, not_false_eq_true, ne_eq, true_or, or_true, false_or, or_false, List.map_nil, List.map_cons, Option.toList_some, Option.toList_none, false_and, and_false, Bool.not_eq_true, Bool.or_false, Bool.or_true, Bool.and_true, Bool.and_false]
  refine ⟨row, k2, _, rfl, hr, hk2, by decide, fun r h0 h1 => ?_⟩
  simp (maxSteps := 5000000) only [wSeq, wIfS, wRet, wRetN, wNext, wBreak, wCont, wNever, wSet, wAsg, wPar, wExpr, wFor, wApp, wPop, wSetIx, wVar, wBor, wTake, wC, wBin, wNil, wCons, wPrim, wCall, wTup, wLst, wSl, wNone, wSome, wM0, wM1, wB, wAndT, wOrT, wNotT, wAndV, wOrV, wNotV, wIf, wIsi, wIsi2, wNeg, wChain, wSortedSet, X_txl, X_txt, wIt, wIt.rdf, wRng1, wRng2, wLc, wYes, lcS, wipeG, backG, noMut, rd_d, rd_o, rd_b, rdf_d, rdf_o, fz_d, fz_o, fz_b, sl_d, sl_o, ok_d, ok_o, argSl_d, argSl_o, argSl_b, items_l, items_t, items_s, rds, rdF, stOk_eq, ncO_some, nc_v, nc_own, nc_no, stOks, setAll, wG, mutAt, putAt, Sl.mu, Sl.put, argSls, noB, fewB, putB, endP, cellsOf, cellF, List.getElem?_cons_zero, List.getElem?_cons_succ, List.getElem?_nil, List.set_cons_zero, List.set_cons_succ, List.append_eq, List.nil_append, List.cons_append, List.replicate, List.take_succ_cons, List.take_zero, List.take_nil, List.filterMap_cons, List.filterMap_nil, Option.map_some, Option.map_none, List.length_cons, List.length_nil, F_add_i, F_add_s, F_add_l, F_add_t, F_int, F_cmp_i, F_cmp_s, F_in_l, F_in_t, F_in_s, F_ix_l, F_ix_t, F_ix_s, F_sl_l, F_sl_t, F_sl_s, F_len_l, F_len_t, F_len_s, F_toInt, F_toStr, F_toTup_l, F_toTup_t, F_toLst_l, F_toLst_t, F_all, F_any, F_split, F_join_l, F_join_t, F_part, F_start, F_end, F_strip, F_sorted_l, F_sorted_t, N_none, N_str, N_int, N_bool, N_tup, N_lst, S_str, S_none, S_int, S_bool, S_tup, S_lst, I_str, I_none, I_int, I_bool, I_tup, I_lst, B_str, B_none, B_int, B_bool, B_tup, B_lst, T_str, T_none, T_int, T_bool, T_tup, T_lst, L_str, L_none, L_int, L_bool, L_tup, L_lst, D_str, D_none, D_int, D_bool, D_tup, D_lst, N_dic, S_dic, I_dic, B_dic, T_dic, L_dic, D_dic, E_ss, E_ii, E_bb, E_ns, E_is, E_bs, E_nn, isA_str, isA_int, isA_bool, isA_tuple, isA_list, isA_dict, fEq, fNe, fIsN, fNotN, eqv_str, eqv_int, eqv_bool, exists_eq_left', exists_eq_left, exists_and_left, R.d.injEq, R.o.injEq, PyData.bool.injEq, PyData.str.injEq, PyData.int.injEq, PyData.tuple.injEq, PyData.list.injEq, List.cons.injEq, Option.some.injEq, and_true, true_and, and_self, Bool.not_true, Bool.not_false, Bool.false_eq_true, Bool.true_eq_false, Bool.true_and, Bool.false_and, Bool.true_or, Bool.false_or, if_true, if_false, reduceIte, reduceCtorEq, not_false_eq_true, ne_eq, true_or, or_true, false_or, or_false, List.map_nil, List.map_cons, Option.toList_some, Option.toList_none, false_and, and_false, Bool.not_eq_true, Bool.or_false, Bool.or_true, Bool.and_true, Bool.and_false]
  split
  · refine ⟨row, _, rfl, hr, by omega, fun w k3 hk3 hw => ?_⟩
    simp (maxSteps := 5000000) only [wSeq, wIfS, wRet, wRetN, wNext, wBreak, wCont, wNever, wSet, wAsg, wPar, wExpr, wFor, wApp, wPop, wSetIx, wVar, wBor, wTake, wC, wBin, wNil, wCons, wPrim, wCall, wTup, wLst, wSl, wNone, wSome, wM0, wM1, wB, wAndT, wOrT, wNotT, wAndV, wOrV, wNotV, wIf, wIsi, wIsi2, wNeg, wChain, wSortedSet, X_txl, X_txt, wIt, wIt.rdf, wRng1, wRng2, wLc, wYes, lcS, wipeG, backG, noMut, rd_d, rd_o, rd_b, rdf_d, rdf_o, fz_d, fz_o, fz_b, sl_d, sl_o, ok_d, ok_o, argSl_d, argSl_o, argSl_b, items_l, items_t, items_s, rds, rdF, stOk_eq, ncO_some, nc_v, nc_own, nc_no, stOks, setAll, wG, mutAt, putAt, Sl.mu, Sl.put, argSls, noB, fewB, putB, endP, cellsOf, cellF, List.getElem?_cons_zero, List.getElem?_cons_succ, List.getElem?_nil, List.set_cons_zero, List.set_cons_succ, List.append_eq, List.nil_append, List.cons_append, List.replicate, List.take_succ_cons, List.take_zero, List.take_nil, List.filterMap_cons, List.filterMap_nil, Option.map_some, Option.map_none, List.length_cons, List.length_nil, F_add_i, F_add_s, F_add_l, F_add_t, F_int, F_cmp_i, F_cmp_s, F_in_l, F_in_t, F_in_s, F_ix_l, F_ix_t, F_ix_s, F_sl_l, F_sl_t, F_sl_s, F_len_l, F_len_t, F_len_s, F_toInt, F_toStr, F_toTup_l, F_toTup_t, F_toLst_l, F_toLst_t, F_all, F_any, F_split, F_join_l, F_join_t, F_part, F_start, F_end, F_strip, F_sorted_l, F_sorted_t, N_none, N_str, N_int, N_bool, N_tup, N_lst, S_str, S_none, S_int, S_bool, S_tup, S_lst, I_str, I_none, I_int, I_bool, I_tup, I_lst, B_str, B_none, B_int, B_bool, B_tup, B_lst, T_str, T_none, T_int, T_bool, T_tup, T_lst, L_str, L_none, L_int, L_bool, L_tup, L_lst, D_str, D_none, D_int, D_bool, D_tup, D_lst, N_dic, S_dic, I_dic, B_dic, T_dic, L_dic, D_dic, E_ss, E_ii, E_bb, E_ns, E_is, E_bs, E_nn, isA_str, isA_int, isA_bool, isA_tuple, isA_list, isA_dict, fEq, fNe, fIsN, fNotN, eqv_str, eqv_int, eqv_bool, exists_eq_left', exists_eq_left, exists_and_left, R.d.injEq, R.o.injEq, PyData.bool.injEq, PyData.str.injEq, PyData.int.injEq, PyData.tuple.injEq, PyData.list.injEq, List.cons.injEq, Option.some.injEq, and_true, true_and, and_self, Bool.not_true, Bool.not_false, Bool.false_eq_true, Bool.true_eq_false, Bool.true_and, Bool.false_and, Bool.true_or, Bool.false_or, if_true, if_false, reduceIte, reduceCtorEq, not_false_eq_true, ne_eq, true_or, or_true, false_or, or_false, List.map_nil, List.map_cons, Option.toList_some, Option.toList_none, false_and, and_false, Bool.not_eq_true, Bool.or_false, Bool.or_true, Bool.and_true, Bool.and_false]
    rw [e_law_1]
    simp (maxSteps := 5000000) only [wSeq, wIfS, wRet, wRetN, wNext, wBreak, wCont, wNever, wSet, wAsg, wPar, wExpr, wFor, wApp, wPop, wSetIx, wVar, wBor, wTake, wC, wBin, wNil, wCons, wPrim, wCall, wTup, wLst, wSl, wNone, wSome, wM0, wM1, wB, wAndT, wOrT, wNotT, wAndV, wOrV, wNotV, wIf, wIsi, wIsi2, wNeg, wChain, wSortedSet, X_txl, X_txt, wIt, wIt.rdf, wRng1, wRng2, wLc, wYes, lcS, wipeG, backG, noMut, rd_d, rd_o, rd_b, rdf_d, rdf_o, fz_d, fz_o, fz_b, sl_d, sl_o, ok_d, ok_o, argSl_d, argSl_o, argSl_b, items_l, items_t, items_s, rds, rdF, stOk_eq, ncO_some, nc_v, nc_own, nc_no, stOks, setAll, wG, mutAt, putAt, Sl.mu, Sl.put, argSls, noB, fewB, putB, endP, cellsOf, cellF, List.getElem?_cons_zero, List.getElem?_cons_succ, List.getElem?_nil, List.set_cons_zero, List.set_cons_succ, List.append_eq, List.nil_append, List.cons_append, List.replicate, List.take_succ_cons, List.take_zero, List.take_nil, List.filterMap_cons, List.filterMap_nil, Option.map_some, Option.map_none, List.length_cons, List.length_nil, F_add_i, F_add_s, F_add_l, F_add_t, F_int, F_cmp_i, F_cmp_s, F_in_l, F_in_t, F_in_s, F_ix_l, F_ix_t, F_ix_s, F_sl_l, F_sl_t, F_sl_s, F_len_l, F_len_t, F_len_s, F_toInt, F_toStr, F_toTup_l, F_toTup_t, F_toLst_l, F_toLst_t, F_all, F_any, F_split, F_join_l, F_join_t, F_part, F_start, F_end, F_strip, F_sorted_l, F_sorted_t, N_none, N_str, N_int, N_bool, N_tup, N_lst, S_str, S_none, S_int, S_bool, S_tup, S_lst, I_str, I_none, I_int, I_bool, I_tup, I_lst, B_str, B_none, B_int, B_bool, B_tup, B_lst, T_str, T_none, T_int, T_bool, T_tup, T_lst, L_str, L_none, L_int, L_bool, L_tup, L_lst, D_str, D_none, D_int, D_bool, D_tup, D_lst, N_dic, S_dic, I_dic, B_dic, T_dic, L_dic, D_dic, E_ss, E_ii, E_bb, E_ns, E_is, E_bs, E_nn, isA_str, isA_int, isA_bool, isA_tuple, isA_list, isA_dict, fEq, fNe, fIsN, fNotN, eqv_str, eqv_int, eqv_bool, exists_eq_left', exists_eq_left, exists_and_left, R.d.injEq, R.o.injEq, PyData.bool.injEq, PyData.str.injEq, PyData.int.injEq, PyData.tuple.injEq, PyData.list.injEq, List.cons.injEq, Option.some.injEq, and_true, true_and, and_self, Bool.not_true, Bool.not_false, Bool.false_eq_true, Bool.true_eq_false, Bool.true_and, Bool.false_and, Bool.true_or, Bool.false_or, if_true, if_false, reduceIte, reduceCtorEq, not_false_eq_true, ne_eq, true_or, or_true, false_or, or_false, List.map_nil, List.map_cons, Option.toList_some, Option.toList_none, false_and, and_false, Bool.not_eq_true, Bool.or_false, Bool.or_true, Bool.and_true, Bool.and_false]
    refine ⟨row, k3, w, rfl, hr, hk3, fun xs k4 hk4 hfw hi => ?_⟩
    have hx3 : xs.length ≤ 3 := by
      unfold fitsWord at hfw
      split at hfw
      · rw [hfw]; simp
      · exact hfw.1
    simp (maxSteps := 5000000) only [wSeq, wIfS, wRet, wRetN, wNext, wBreak, wCont, wNever, wSet, wAsg, wPar, wExpr, wFor, wApp, wPop, wSetIx, wVar, wBor, wTake, wC, wBin, wNil, wCons, wPrim, wCall, wTup, wLst, wSl, wNone, wSome, wM0, wM1, wB, wAndT, wOrT, wNotT, wAndV, wOrV, wNotV, wIf, wIsi, wIsi2, wNeg, wChain, wSortedSet, X_txl, X_txt, wIt, wIt.rdf, wRng1, wRng2, wLc, wYes, lcS, wipeG, backG, noMut, rd_d, rd_o, rd_b, rdf_d, rdf_o, fz_d, fz_o, fz_b, sl_d, sl_o, ok_d, ok_o, argSl_d, argSl_o, argSl_b, items_l, items_t, items_s, rds, rdF, stOk_eq, ncO_some, nc_v, nc_own, nc_no, stOks, setAll, wG, mutAt, putAt, Sl.mu, Sl.put, argSls, noB, fewB, putB, endP, cellsOf, cellF, List.getElem?_cons_zero, List.getElem?_cons_succ, List.getElem?_nil, List.set_cons_zero, List.set_cons_succ, List.append_eq, List.nil_append, List.cons_append, List.replicate, List.take_succ_cons, List.take_zero, List.take_nil, List.filterMap_cons, List.filterMap_nil, Option.map_some, Option.map_none, List.length_cons, List.length_nil, F_add_i, F_add_s, F_add_l, F_add_t, F_int, F_cmp_i, F_cmp_s, F_in_l, F_in_t, F_in_s, F_ix_l, F_ix_t, F_ix_s, F_sl_l, F_sl_t, F_sl_s, F_len_l, F_len_t, F_len_s, F_toInt, F_toStr, F_toTup_l, F_toTup_t, F_toLst_l, F_toLst_t, F_all, F_any, F_split, F_join_l, F_join_t, F_part, F_start, F_end, F_strip, F_sorted_l, F_sorted_t, N_none, N_str, N_int, N_bool, N_tup, N_lst, S_str, S_none, S_int, S_bool, S_tup, S_lst, I_str, I_none, I_int, I_bool, I_tup, I_lst, B_str, B_none, B_int, B_bool, B_tup, B_lst, T_str, T_none, T_int, T_bool, T_tup, T_lst, L_str, L_none, L_int, L_bool, L_tup, L_lst, D_str, D_none, D_int, D_bool, D_tup, D_lst, N_dic, S_dic, I_dic, B_dic, T_dic, L_dic, D_dic, E_ss, E_ii, E_bb, E_ns, E_is, E_bs, E_nn, isA_str, isA_int, isA_bool, isA_tuple, isA_list, isA_dict, fEq, fNe, fIsN, fNotN, eqv_str, eqv_int, eqv_bool, exists_eq_left', exists_eq_left, exists_and_left, R.d.injEq, R.o.injEq, PyData.bool.injEq, PyData.str.injEq, PyData.int.injEq, PyData.tuple.injEq, PyData.list.injEq, List.cons.injEq, Option.some.injEq, and_true, true_and, and_self, Bool.not_true, Bool.not_false, Bool.false_eq_true, Bool.true_eq_false, Bool.true_and, Bool.false_and, Bool.true_or, Bool.false_or, if_true, if_false, reduceIte, reduceCtorEq, not_false_eq_true, ne_eq, true_or, or_true, false_or, or_false, List.map_nil, List.map_cons, Option.toList_some, Option.toList_none, false_and, and_false, Bool.not_eq_true, Bool.or_false, Bool.or_true, Bool.and_true, Bool.and_false]
    refine ⟨w, xs, rfl, by omega, ?_⟩
    simp (maxSteps := 5000000) only [wSeq, wIfS, wRet, wRetN, wNext, wBreak, wCont, wNever, wSet, wAsg, wPar, wExpr, wFor, wApp, wPop, wSetIx, wVar, wBor, wTake, wC, wBin, wNil, wCons, wPrim, wCall, wTup, wLst, wSl, wNone, wSome, wM0, wM1, wB, wAndT, wOrT, wNotT, wAndV, wOrV, wNotV, wIf, wIsi, wIsi2, wNeg, wChain, wSortedSet, X_txl, X_txt, wIt, wIt.rdf, wRng1, wRng2, wLc, wYes, lcS, wipeG, backG, noMut, rd_d, rd_o, rd_b, rdf_d, rdf_o, fz_d, fz_o, fz_b, sl_d, sl_o, ok_d, ok_o, argSl_d, argSl_o, argSl_b, items_l, items_t, items_s, rds, rdF, stOk_eq, ncO_some, nc_v, nc_own, nc_no, stOks, setAll, wG, mutAt, putAt, Sl.mu, Sl.put, argSls, noB, fewB, putB, endP, cellsOf, cellF, List.getElem?_cons_zero, List.getElem?_cons_succ, List.getElem?_nil, List.set_cons_zero, List.set_cons_succ, List.append_eq, List.nil_append, List.cons_append, List.replicate, List.take_succ_cons, List.take_zero, List.take_nil, List.filterMap_cons, List.filterMap_nil, Option.map_some, Option.map_none, List.length_cons, List.length_nil, F_add_i, F_add_s, F_add_l, F_add_t, F_int, F_cmp_i, F_cmp_s, F_in_l, F_in_t, F_in_s, F_ix_l, F_ix_t, F_ix_s, F_sl_l, F_sl_t, F_sl_s, F_len_l, F_len_t, F_len_s, F_toInt, F_toStr, F_toTup_l, F_toTup_t, F_toLst_l, F_toLst_t, F_all, F_any, F_split, F_join_l, F_join_t, F_part, F_start, F_end, F_strip, F_sorted_l, F_sorted_t, N_none, N_str, N_int, N_bool, N_tup, N_lst, S_str, S_none, S_int, S_bool, S_tup, S_lst, I_str, I_none, I_int, I_bool, I_tup, I_lst, B_str, B_none, B_int, B_bool, B_tup, B_lst, T_str, T_none, T_int, T_bool, T_tup, T_lst, L_str, L_none, L_int, L_bool, L_tup, L_lst, D_str, D_none, D_int, D_bool, D_tup, D_lst, N_dic, S_dic, I_dic, B_dic, T_dic, L_dic, D_dic, E_ss, E_ii, E_bb, E_ns, E_is, E_bs, E_nn, isA_str, isA_int, isA_bool, isA_tuple, isA_list, isA_dict, fEq, fNe, fIsN, fNotN, eqv_str, eqv_int, eqv_bool, exists_eq_left', exists_eq_left, exists_and_left, R.d.injEq, R.o.injEq, PyData.bool.injEq, PyData.str.injEq, PyData.int.injEq, PyData.tuple.injEq, PyData.list.injEq, List.cons.injEq, Option.some.injEq, and_true, true_and, and_self, Bool.not_true, Bool.not_false, Bool.false_eq_true, Bool.true_eq_false, Bool.true_and, Bool.false_and, Bool.true_or, Bool.false_or, if_true, if_false, reduceIte, reduceCtorEq, not_false_eq_true, ne_eq, true_or, or_true, false_or, or_false, List.map_nil, List.map_cons, Option.toList_some, Option.toList_none, false_and, and_false, Bool.not_eq_true, Bool.or_false, Bool.or_true, Bool.and_true, Bool.and_false]
    refine ⟨f, _, _, _, rfl, hf, Mng.ok_single w hi, by omega, ?_⟩
    simp (maxSteps := 5000000) only [wSeq, wIfS, wRet, wRetN, wNext, wBreak, wCont, wNever, wSet, wAsg, wPar, wExpr, wFor, wApp, wPop, wSetIx, wVar, wBor, wTake, wC, wBin, wNil, wCons, wPrim, wCall, wTup, wLst, wSl, wNone, wSome, wM0, wM1, wB, wAndT, wOrT, wNotT, wAndV, wOrV, wNotV, wIf, wIsi, wIsi2, wNeg, wChain, wSortedSet, X_txl, X_txt, wIt, wIt.rdf, wRng1, wRng2, wLc, wYes, lcS, wipeG, backG, noMut, rd_d, rd_o, rd_b, rdf_d, rdf_o, fz_d, fz_o, fz_b, sl_d, sl_o, ok_d, ok_o, argSl_d, argSl_o, argSl_b, items_l, items_t, items_s, rds, rdF, stOk_eq, ncO_some, nc_v, nc_own, nc_no, stOks, setAll, wG, mutAt, putAt, Sl.mu, Sl.put, argSls, noB, fewB, putB, endP, cellsOf, cellF, List.getElem?_cons_zero, List.getElem?_cons_succ, List.getElem?_nil, List.set_cons_zero, List.set_cons_succ, List.append_eq, List.nil_append, List.cons_append, List.replicate, List.take_succ_cons, List.take_zero, List.take_nil, List.filterMap_cons, List.filterMap_nil, Option.map_some, Option.map_none, List.length_cons, List.length_nil, F_add_i, F_add_s, F_add_l, F_add_t, F_int, F_cmp_i, F_cmp_s, F_in_l, F_in_t, F_in_s, F_ix_l, F_ix_t, F_ix_s, F_sl_l, F_sl_t, F_sl_s, F_len_l, F_len_t, F_len_s, F_toInt, F_toStr, F_toTup_l, F_toTup_t, F_toLst_l, F_toLst_t, F_all, F_any, F_split, F_join_l, F_join_t, F_part, F_start, F_end, F_strip, F_sorted_l, F_sorted_t, N_none, N_str, N_int, N_bool, N_tup, N_lst, S_str, S_none, S_int, S_bool, S_tup, S_lst, I_str, I_none, I_int, I_bool, I_tup, I_lst, B_str, B_none, B_int, B_bool, B_tup, B_lst, T_str, T_none, T_int, T_bool, T_tup, T_lst, L_str, L_none, L_int, L_bool, L_tup, L_lst, D_str, D_none, D_int, D_bool, D_tup, D_lst, N_dic, S_dic, I_dic, B_dic, T_dic, L_dic, D_dic, E_ss, E_ii, E_bb, E_ns, E_is, E_bs, E_nn, isA_str, isA_int, isA_bool, isA_tuple, isA_list, isA_dict, fEq, fNe, fIsN, fNotN, eqv_str, eqv_int, eqv_bool, exists_eq_left', exists_eq_left, exists_and_left, R.d.injEq, R.o.injEq, PyData.bool.injEq, PyData.str.injEq, PyData.int.injEq, PyData.tuple.injEq, PyData.list.injEq, List.cons.injEq, Option.some.injEq, and_true, true_and, and_self, Bool.not_true, Bool.not_false, Bool.false_eq_true, Bool.true_eq_false, Bool.true_and, Bool.false_and, Bool.true_or, Bool.false_or, if_true, if_false, reduceIte, reduceCtorEq, not_false_eq_true, ne_eq, true_or, or_true, false_or, or_false, List.map_nil, List.map_cons, Option.toList_some, Option.toList_none, false_and, and_false, Bool.not_eq_true, Bool.or_false, Bool.or_true, Bool.and_true, Bool.and_false]
    exact tail _ _ _ ((Mng.ok_after hf (Mng.ok_single w hi)).mono (by omega)) hk4
  · exact tail _ _ _ (hs.mono (by decide)) (by omega)

def top (i : Nat) : Stmt := PySem.Challenge.pw_layeredwords_k13_whole_unlike_meanings_a.main.body.getD i (.Pass ⟨0, 0, 0, 0⟩)
abbrev s_is_sequence : Stmt := top 2
theorem d_is_sequence {P : Program} {w : World} {K : PySem.W.Frag} {mg : Str → Option Value} {base : Heap} (b_isinstance : mg "isinstance" = none) (b_list : mg "list" = none) (b_tuple : mg "tuple" = none) {f : Addr} {fd : FuncData} (Fu : Fn K "is_sequence" s_is_sequence f fd) (hm : mg "is_sequence" = some (.ref f)) : Ca P w K mg base "is_sequence" 1 fs_is_sequence := by
  have nd : (["value"] : List Str).Nodup := by decide +kernel
  refine ca_mk (N := ["value"]) (ps := ["value"]) (k := 0) (fs := fs_is_sequence) (u := w_is_sequence) Fu ⟨rfl, rfl, rfl, nd, rfl, by decide +kernel, by decide +kernel⟩ l_is_sequence m_is_sequence hm (Fu.bindsN fun _ _ _ _ _ _ us hl => match us, hl with | [_], _ => rfl) (fun cdv A outer s H E hr => ?_)
  exact (dss_one (ds_ret (de_isi2 (de_bor (pv 0)) (by decide) (by decide) (by decide +kernel) (by decide +kernel) b_list b_tuple b_isinstance)))
abbrev s_frozen : Stmt := top 3
theorem dr_frozen {P : Program} {w : World} {K : PySem.W.Frag} {mg : Str → Option Value} {base : Heap} (b_tuple : mg "tuple" = none) (c_is_sequence : Ca P w K mg base "is_sequence" 1 fs_is_sequence) {f : Addr} {fd : FuncData} (Fu : Fn K "frozen" s_frozen f fd) (hm : mg "frozen" = some (.ref f)) : ∀ n : Nat, Ca P w K mg base "frozen" (n + 2) (fsr_frozen n)
  | 0 => by
    exact (ca_mk (N := ["value", "part"]) (ps := ["value"]) (k := 1) (fs := fsr_frozen 0) (u := wNever) Fu ⟨rfl, rfl, rfl, by decide +kernel, rfl, by decide +kernel, by decide +kernel⟩ (l_frozen 0) (fun as Q X h => (z_frozen as Q X h).elim) hm (Fu.bindsN fun _ _ _ _ _ _ us hl => match us, hl with | [_], _ => rfl) (fun cdv A outer s H E hr => dss_never)).mono (by omega)
  | n + 1 => by
    have c_frozen := dr_frozen (P := P) (w := w) (base := base) b_tuple c_is_sequence Fu hm n
    have nd : (["value", "part"] : List Str).Nodup := by decide +kernel
    refine Ca.mono (k := n + 3) (j := n + 2 + 1) ?_ (by omega)
    refine ca_mk (N := ["value", "part"]) (ps := ["value"]) (k := n + 2) (fs := (fsr_frozen (n + 1))) (u := (w_frozen (fsr_frozen n))) Fu ⟨rfl, rfl, rfl, nd, rfl, by decide +kernel, by decide +kernel⟩ (l_frozen (n + 1)) (m_frozen n) hm (Fu.bindsN fun _ _ _ _ _ _ us hl => match us, hl with | [_], _ => rfl) (fun cdv A outer s H E hr => ?_)
    have tk : Takes (cxOf (L2.CX P w) P w K mg base ["value", "part"] "frozen" (defScope s_frozen) f cdv A outer s H E) (WD E) := takes_of rfl rfl rfl rfl
    exact (dss_cons (ds_if (dt_val (de_call tk c_is_sequence hr (by omega) (da_cons (de_var (pv 0)) da_nil))) (dss_one (ds_ret (de_callTy p_toTup call_tuple_of b_tuple (by decide +kernel) (da_cons (de_lc (own := [("part", 1)]) rfl nd (di_any (de_var (pv 0))) (blkOk_by (own := [("part", 1)]) (by show blkC ["value", "part"] (defScope s_frozen) _ _ = true; decide +kernel)) (fun _ _ _ _ _ => (pg_n nd)) (fun _ _ _ _ _ => dts_nil) (fun _ _ _ _ _ => (de_call takes0 c_frozen hr (by omega) (da_cons (de_var (pv 1)) da_nil)))) da_nil)))) dss_nil)
    (dss_one (ds_ret (de_take (pv 0)))))
theorem d_frozen {P : Program} {w : World} {K : PySem.W.Frag} {mg : Str → Option Value} {base : Heap} (b_tuple : mg "tuple" = none) (c_is_sequence : Ca P w K mg base "is_sequence" 1 fs_is_sequence) {f : Addr} {fd : FuncData} (Fu : Fn K "frozen" s_frozen f fd) (hm : mg "frozen" = some (.ref f)) : Ca P w K mg base "frozen" 14 fs_frozen := dr_frozen b_tuple c_is_sequence Fu hm 12
abbrev s_is_letter : Stmt := top 4
theorem d_is_letter {P : Program} {w : World} {K : PySem.W.Frag} {mg : Str → Option Value} {base : Heap}  {f : Addr} {fd : FuncData} (Fu : Fn K "is_letter" s_is_letter f fd) (hm : mg "is_letter" = some (.ref f)) : Ca P w K mg base "is_letter" 1 fs_is_letter := by
  have nd : (["sign"] : List Str).Nodup := by decide +kernel
  refine ca_mk (N := ["sign"]) (ps := ["sign"]) (k := 0) (fs := fs_is_letter) (u := w_is_letter) Fu ⟨rfl, rfl, rfl, nd, rfl, by decide +kernel, by decide +kernel⟩ l_is_letter m_is_letter hm (Fu.bindsN fun _ _ _ _ _ _ us hl => match us, hl with | [_], _ => rfl) (fun cdv A outer s H E hr => ?_)
  exact (dss_one (ds_ret (de_or (de_chain p_cmp p_cmp op_leU op_leU de_str (de_bor (pv 0)) de_str) (de_or (de_chain p_cmp p_cmp op_leU op_leU de_str (de_bor (pv 0)) de_str) (de_one (de_chain p_cmp p_cmp op_leU op_leU de_str (de_bor (pv 0)) de_str))))))
abbrev s_has_signs : Stmt := top 5
theorem d_has_signs {P : Program} {w : World} {K : PySem.W.Frag} {mg : Str → Option Value} {base : Heap} (b_isinstance : mg "isinstance" = none) (b_str : mg "str" = none) (b_len : mg "len" = none) (b_all : mg "all" = none) (g_MOST_SIGNS : Gc K mg "MOST_SIGNS" (PyData.int 40)) (c_is_letter : Ca P w K mg base "is_letter" 1 fs_is_letter) {f : Addr} {fd : FuncData} (Fu : Fn K "has_signs" s_has_signs f fd) (hm : mg "has_signs" = some (.ref f)) : Ca P w K mg base "has_signs" 2 fs_has_signs := by
  have nd : (["value", "signs", "sign"] : List Str).Nodup := by decide +kernel
  refine ca_mk (N := ["value", "signs", "sign"]) (ps := ["value", "signs"]) (k := 1) (fs := fs_has_signs) (u := w_has_signs) Fu ⟨rfl, rfl, rfl, nd, rfl, by decide +kernel, by decide +kernel⟩ l_has_signs m_has_signs hm (Fu.bindsN fun _ _ _ _ _ _ us hl => match us, hl with | [_, _], _ => rfl) (fun cdv A outer s H E hr => ?_)
  have tk : Takes (cxOf (L2.CX P w) P w K mg base ["value", "signs", "sign"] "has_signs" (defScope s_has_signs) f cdv A outer s H E) (WD E) := takes_of rfl rfl rfl rfl
  exact (dss_cons (ds_if ((dw_or (dt_not (dt_val (de_isi (de_bor (pv 0)) (by decide) (by decide +kernel) b_str b_isinstance))) (dw_or1 (dt_not (dt_chain p_cmp p_cmp op_leU op_leU de_int (de_callB p_len call_lenU b_len PySem.boot_len (da_cons (de_bor (pv 0)) da_nil)) (de_glob g_MOST_SIGNS)))))).dt (dss_one (ds_ret de_bl)) dss_nil)
    (dss_one (ds_ret (de_callB p_all (cr_all rfl) b_all (by decide +kernel) (da_cons (de_lc (own := [("sign", 2)]) rfl nd (di_any (de_var (pv 0))) (blkOk_by (own := [("sign", 2)]) (by show blkC ["value", "signs", "sign"] (defScope s_has_signs) _ _ = true; decide +kernel)) (fun _ _ _ _ _ => (pg_n nd)) (fun _ _ _ _ _ => dts_nil) (fun _ _ _ _ _ => (de_or (de_call takes0 c_is_letter hr (by decide) (da_cons (de_var (pv 2)) da_nil)) (de_one (de_cmp p_in op_inU (de_bor (pv 2)) (de_bor (pv 1))))))) da_nil)))))
abbrev s_is_item_word : Stmt := top 6
theorem d_is_item_word {P : Program} {w : World} {K : PySem.W.Frag} {mg : Str → Option Value} {base : Heap} (c_has_signs : Ca P w K mg base "has_signs" 2 fs_has_signs) {f : Addr} {fd : FuncData} (Fu : Fn K "is_item_word" s_is_item_word f fd) (hm : mg "is_item_word" = some (.ref f)) : Ca P w K mg base "is_item_word" 3 fs_is_item_word := by
  have nd : (["value"] : List Str).Nodup := by decide +kernel
  refine ca_mk (N := ["value"]) (ps := ["value"]) (k := 2) (fs := fs_is_item_word) (u := w_is_item_word) Fu ⟨rfl, rfl, rfl, nd, rfl, by decide +kernel, by decide +kernel⟩ l_is_item_word m_is_item_word hm (Fu.bindsN fun _ _ _ _ _ _ us hl => match us, hl with | [_], _ => rfl) (fun cdv A outer s H E hr => ?_)
  have tk : Takes (cxOf (L2.CX P w) P w K mg base ["value"] "is_item_word" (defScope s_is_item_word) f cdv A outer s H E) (WD E) := takes_of rfl rfl rfl rfl
  exact (dss_one (ds_ret (de_and (de_call tk c_has_signs hr (by decide) (da_cons (de_var (pv 0)) (da_cons de_str da_nil))) (de_one (de_cmp p_ne (op_neU hr.units) (de_ix p_ix ix_seq (de_bor (pv 0)) (de_neg de_int)) de_str)))))
abbrev s_are_items : Stmt := top 7
theorem d_are_items {P : Program} {w : World} {K : PySem.W.Frag} {mg : Str → Option Value} {base : Heap} (b_all : mg "all" = none) (c_is_sequence : Ca P w K mg base "is_sequence" 1 fs_is_sequence) (c_is_item_word : Ca P w K mg base "is_item_word" 3 fs_is_item_word) {f : Addr} {fd : FuncData} (Fu : Fn K "are_items" s_are_items f fd) (hm : mg "are_items" = some (.ref f)) : Ca P w K mg base "are_items" 4 fs_are_items := by
  have nd : (["value", "item"] : List Str).Nodup := by decide +kernel
  refine ca_mk (N := ["value", "item"]) (ps := ["value"]) (k := 3) (fs := fs_are_items) (u := w_are_items) Fu ⟨rfl, rfl, rfl, nd, rfl, by decide +kernel, by decide +kernel⟩ l_are_items m_are_items hm (Fu.bindsN fun _ _ _ _ _ _ us hl => match us, hl with | [_], _ => rfl) (fun cdv A outer s H E hr => ?_)
  have tk : Takes (cxOf (L2.CX P w) P w K mg base ["value", "item"] "are_items" (defScope s_are_items) f cdv A outer s H E) (WD E) := takes_of rfl rfl rfl rfl
  exact (dss_one (ds_ret (de_and (de_call tk c_is_sequence hr (by decide) (da_cons (de_var (pv 0)) da_nil)) (de_one (de_callB p_all (cr_all rfl) b_all (by decide +kernel) (da_cons (de_lc (own := [("item", 1)]) rfl nd (di_any (de_var (pv 0))) (blkOk_by (own := [("item", 1)]) (by show blkC ["value", "item"] (defScope s_are_items) _ _ = true; decide +kernel)) (fun _ _ _ _ _ => (pg_n nd)) (fun _ _ _ _ _ => dts_nil) (fun _ _ _ _ _ => (de_call takes0 c_is_item_word hr (by decide) (da_cons (de_var (pv 1)) da_nil)))) da_nil))))))
abbrev s_is_meaning_row : Stmt := top 9
theorem d_is_meaning_row {P : Program} {w : World} {K : PySem.W.Frag} {mg : Str → Option Value} {base : Heap} (b_len : mg "len" = none) (b_isinstance : mg "isinstance" = none) (b_bool : mg "bool" = none) (b_str : mg "str" = none) (b_all : mg "all" = none) (b_range : mg "range" = none) (c_is_sequence : Ca P w K mg base "is_sequence" 1 fs_is_sequence) (c_are_items : Ca P w K mg base "are_items" 4 fs_are_items) {f : Addr} {fd : FuncData} (Fu : Fn K "is_meaning_row" s_is_meaning_row f fd) (hm : mg "is_meaning_row" = some (.ref f)) : Ca P w K mg base "is_meaning_row" 5 fs_is_meaning_row := by
  have nd : (["value", "word", "before", "dropped", "behind", "default", "_", "at"] : List Str).Nodup := by decide +kernel
  refine ca_mk (N := ["value", "word", "before", "dropped", "behind", "default", "_", "at"]) (ps := ["value"]) (k := 4) (fs := fs_is_meaning_row) (u := w_is_meaning_row) Fu ⟨rfl, rfl, rfl, nd, rfl, by decide +kernel, by decide +kernel⟩ l_is_meaning_row m_is_meaning_row hm (Fu.bindsN fun _ _ _ _ _ _ us hl => match us, hl with | [_], _ => rfl) (fun cdv A outer s H E hr => ?_)
  have tk : Takes (cxOf (L2.CX P w) P w K mg base ["value", "word", "before", "dropped", "behind", "default", "_", "at"] "is_meaning_row" (defScope s_is_meaning_row) f cdv A outer s H E) (WD E) := takes_of rfl rfl rfl rfl
  exact (dss_cons (ds_if ((dw_or (dt_not (dt_val (de_call tk c_is_sequence hr (by decide) (da_cons (de_var (pv 0)) da_nil)))) (dw_or (dt_cmp p_in op_ninU (de_callB p_len call_lenU b_len PySem.boot_len (da_cons (de_bor (pv 0)) da_nil)) (de_tup (da_cons de_int (da_cons de_int da_nil)))) (dw_or1 (dt_not (dt_val (de_isi (de_ix p_ix ix_seq (de_bor (pv 0)) (de_neg de_int)) (by decide) (by decide +kernel) b_bool b_isinstance))))))).dt (dss_one (ds_ret de_bl)) dss_nil)
    (dss_cons (ds_if (dt_not (dt_val (de_isi (de_ix p_ix ix_seq (de_bor (pv 0)) de_int) (by decide) (by decide +kernel) b_str b_isinstance))) (dss_one (ds_ret de_bl)) dss_nil)
    (dss_cons (ds_if (dt_cmp p_eq (op_eqU hr.units) (de_callB p_len call_lenU b_len PySem.boot_len (da_cons (de_bor (pv 0)) da_nil)) de_int) (dss_one (ds_ret (de_and (de_cmp p_eq (op_eqU hr.units) (de_ix p_ix ix_seq (de_bor (pv 0)) de_int) de_str) (de_one (de_or (de_cmp p_isN op_isN (de_ix p_ix ix_seq (de_bor (pv 0)) de_int) de_non) (de_one (de_call tk c_are_items hr (by decide) (da_cons (de_ix p_ix ix_seq (de_bor (pv 0)) de_int) da_nil)))))))) dss_nil)
    (dss_cons (ds_asg (de_var (pv 0)) (pg_t rfl (pgs_1 nd (pgs_1 nd (pgs_1 nd (pgs_1 nd (pgs_1 nd (pgs_1 nd pgs_0))))))))
    (dss_cons (ds_if ((dw_or (dt_cmp p_ne (op_neU hr.units) (de_bor (pv 1)) de_str) (dw_or (dt_not (dt_val (de_call tk c_are_items hr (by decide) (da_cons (de_var (pv 2)) da_nil)))) (dw_or (dt_not (dt_val (de_call tk c_are_items hr (by decide) (da_cons (de_var (pv 3)) da_nil)))) (dw_or1 (dt_not (dt_val (de_call tk c_are_items hr (by decide) (da_cons (de_var (pv 4)) da_nil))))))))).dt (dss_one (ds_ret de_bl)) dss_nil)
    (dss_cons (ds_if (dt_not (dt_val (de_callB p_all (cr_all rfl) b_all (by decide +kernel) (da_cons (de_lc (own := [("at", 7)]) rfl nd (di_rng2 (da_cons de_int (da_cons (de_callB p_len call_lenU b_len PySem.boot_len (da_cons (de_bor (pv 3)) da_nil)) da_nil)) b_range) (blkOk_by (own := [("at", 7)]) (by show blkC ["value", "word", "before", "dropped", "behind", "default", "_", "at"] (defScope s_is_meaning_row) _ _ = true; decide +kernel)) (fun _ _ _ _ _ => (pg_n nd)) (fun _ _ _ _ _ => dts_nil) (fun _ _ _ _ _ => (de_cmp p_cmp op_ltU (de_ix p_ix ix_seq (de_bor (pv 3)) (de_bin (p_int (C := fun _ _ => True) (g := (· - ·))) op_subC (de_bor (pv 7)) de_int)) (de_ix p_ix ix_seq (de_bor (pv 3)) (de_var (pv 7)))))) da_nil)))) (dss_one (ds_ret de_bl)) dss_nil)
    (dss_cons (ds_if (dt_cmp p_isN op_isN (de_bor (pv 5)) de_non) (dss_one (ds_ret (de_and (de_cmp p_eq (op_eqU hr.units) (de_callB p_len call_lenU b_len PySem.boot_len (da_cons (de_bor (pv 2)) da_nil)) de_int) (de_one (de_cmp p_eq (op_eqU hr.units) (de_callB p_len call_lenU b_len PySem.boot_len (da_cons (de_bor (pv 4)) da_nil)) de_int))))) dss_nil)
    (dss_one (ds_ret (de_call tk c_are_items hr (by decide) (da_cons (de_var (pv 5)) da_nil)))))))))))
abbrev s_left_of : Stmt := top 10
theorem d_left_of {P : Program} {w : World} {K : PySem.W.Frag} {mg : Str → Option Value} {base : Heap} (b_tuple : mg "tuple" = none) {f : Addr} {fd : FuncData} (Fu : Fn K "left_of" s_left_of f fd) (hm : mg "left_of" = some (.ref f)) : Ca P w K mg base "left_of" 1 fs_left_of := by
  have nd : (["items", "dropped", "item"] : List Str).Nodup := by decide +kernel
  refine ca_mk (N := ["items", "dropped", "item"]) (ps := ["items", "dropped"]) (k := 0) (fs := fs_left_of) (u := w_left_of) Fu ⟨rfl, rfl, rfl, nd, rfl, by decide +kernel, by decide +kernel⟩ l_left_of m_left_of hm (Fu.bindsN fun _ _ _ _ _ _ us hl => match us, hl with | [_, _], _ => rfl) (fun cdv A outer s H E hr => ?_)
  exact (dss_one (ds_ret (de_callTy p_toTup call_tuple_of b_tuple (by decide +kernel) (da_cons (de_lc (own := [("item", 2)]) rfl nd (di_any (de_var (pv 0))) (blkOk_by (own := [("item", 2)]) (by show blkC ["items", "dropped", "item"] (defScope s_left_of) _ _ = true; decide +kernel)) (fun _ _ _ _ _ => (pg_n nd)) (fun _ _ _ _ _ => (dts_one (dt_cmp p_in op_ninU (de_bor (pv 2)) (de_bor (pv 1))))) (fun _ _ _ _ _ => (de_var (pv 2)))) da_nil))))
abbrev s_value_behind : Stmt := top 11
theorem d_value_behind {P : Program} {w : World} {K : PySem.W.Frag} {mg : Str → Option Value} {base : Heap} (c_left_of : Ca P w K mg base "left_of" 1 fs_left_of) {f : Addr} {fd : FuncData} (Fu : Fn K "value_behind" s_value_behind f fd) (hm : mg "value_behind" = some (.ref f)) : Ca P w K mg base "value_behind" 2 fs_value_behind := by
  have nd : (["meaning", "value", "_", "before", "dropped", "behind", "default"] : List Str).Nodup := by decide +kernel
  refine ca_mk (N := ["meaning", "value", "_", "before", "dropped", "behind", "default"]) (ps := ["meaning", "value"]) (k := 1) (fs := fs_value_behind) (u := w_value_behind) Fu ⟨rfl, rfl, rfl, nd, rfl, by decide +kernel, by decide +kernel⟩ l_value_behind m_value_behind hm (Fu.bindsN fun _ _ _ _ _ _ us hl => match us, hl with | [_, _], _ => rfl) (fun cdv A outer s H E hr => ?_)
  have tk : Takes (cxOf (L2.CX P w) P w K mg base ["meaning", "value", "_", "before", "dropped", "behind", "default"] "value_behind" (defScope s_value_behind) f cdv A outer s H E) (WD E) := takes_of rfl rfl rfl rfl
  exact (dss_cons (ds_if (dt_cmp p_eq (op_eqU hr.units) (de_ix p_ix ix_seq (de_bor (pv 0)) de_int) de_str) (dss_one (ds_ret (de_ix p_ix ix_seq (de_bor (pv 0)) de_int))) dss_nil)
    (dss_cons (ds_asg (de_var (pv 0)) (pg_t rfl (pgs_1 nd (pgs_1 nd (pgs_1 nd (pgs_1 nd (pgs_1 nd (pgs_1 nd pgs_0))))))))
    (dss_cons (ds_if (dt_cmp p_notN op_notN (de_bor (pv 1)) de_non) (dss_one (ds_ret (de_bin p_add op_addU (de_bin p_add op_addU (de_bor (pv 3)) (de_call tk c_left_of hr (by decide) (da_cons (de_var (pv 1)) (da_cons (de_var (pv 4)) da_nil)))) (de_bor (pv 5))))) dss_nil)
    (dss_cons (ds_if (dt_cmp p_isN op_isN (de_bor (pv 6)) de_non) (dss_one (ds_ret de_non)) dss_nil)
    (dss_one (ds_ret (de_bin p_add op_addU (de_bin p_add op_addU (de_bor (pv 3)) (de_bor (pv 6))) (de_bor (pv 5)))))))))
abbrev s_acted : Stmt := top 12
theorem d_acted {P : Program} {w : World} {K : PySem.W.Frag} {mg : Str → Option Value} {base : Heap} (c_value_behind : Ca P w K mg base "value_behind" 2 fs_value_behind) {f : Addr} {fd : FuncData} (Fu : Fn K "acted" s_acted f fd) (hm : mg "acted" = some (.ref f)) : Ca P w K mg base "acted" 3 fs_acted := by
  have nd : (["meaning", "value", "locked"] : List Str).Nodup := by decide +kernel
  refine ca_mk (N := ["meaning", "value", "locked"]) (ps := ["meaning", "value", "locked"]) (k := 2) (fs := fs_acted) (u := w_acted) Fu ⟨rfl, rfl, rfl, nd, rfl, by decide +kernel, by decide +kernel⟩ l_acted m_acted hm (Fu.bindsN fun _ _ _ _ _ _ us hl => match us, hl with | [_, _, _], _ => rfl) (fun cdv A outer s H E hr => ?_)
  have tk : Takes (cxOf (L2.CX P w) P w K mg base ["meaning", "value", "locked"] "acted" (defScope s_acted) f cdv A outer s H E) (WD E) := takes_of rfl rfl rfl rfl
  exact (dss_cons (ds_if (dt_val (de_var (pv 2))) (dss_one (ds_ret (de_tup (da_cons (de_var (pv 1)) (da_cons de_bl da_nil))))) dss_nil)
    (dss_one (ds_ret (de_tup (da_cons (de_call tk c_value_behind hr (by decide) (da_cons (de_var (pv 0)) (da_cons (de_var (pv 1)) da_nil))) (da_cons (de_ix p_ix ix_seq (de_bor (pv 0)) (de_neg de_int)) da_nil))))))
abbrev s_is_meaning : Stmt := top 17
theorem d_is_meaning {P : Program} {w : World} {K : PySem.W.Frag} {mg : Str → Option Value} {base : Heap} (c_is_meaning_row : Ca P w K mg base "is_meaning_row" 5 fs_is_meaning_row) {f : Addr} {fd : FuncData} (Fu : Fn K "is_meaning" s_is_meaning f fd) (hm : mg "is_meaning" = some (.ref f)) : Ca P w K mg base "is_meaning" 6 fs_is_meaning := by
  have nd : (["value"] : List Str).Nodup := by decide +kernel
  refine ca_mk (N := ["value"]) (ps := ["value"]) (k := 5) (fs := fs_is_meaning) (u := w_is_meaning) Fu ⟨rfl, rfl, rfl, nd, rfl, by decide +kernel, by decide +kernel⟩ l_is_meaning m_is_meaning hm (Fu.bindsN fun _ _ _ _ _ _ us hl => match us, hl with | [_], _ => rfl) (fun cdv A outer s H E hr => ?_)
  have tk : Takes (cxOf (L2.CX P w) P w K mg base ["value"] "is_meaning" (defScope s_is_meaning) f cdv A outer s H E) (WD E) := takes_of rfl rfl rfl rfl
  exact (dss_one (ds_ret (de_call tk c_is_meaning_row hr (by decide) (da_cons (de_var (pv 0)) da_nil))))
abbrev s_act : Stmt := top 18
theorem d_act {P : Program} {w : World} {K : PySem.W.Frag} {mg : Str → Option Value} {base : Heap} (b_isinstance : mg "isinstance" = none) (b_bool : mg "bool" = none) (c_is_meaning : Ca P w K mg base "is_meaning" 6 fs_is_meaning) (c_are_items : Ca P w K mg base "are_items" 4 fs_are_items) (c_acted : Ca P w K mg base "acted" 3 fs_acted) (c_frozen : Ca P w K mg base "frozen" 14 fs_frozen) {f : Addr} {fd : FuncData} (Fu : Fn K "act" s_act f fd) (hm : mg "act" = some (.ref f)) : Ca P w K mg base "act" 15 fs_act := by
  have nd : (["meaning", "value", "locked"] : List Str).Nodup := by decide +kernel
  refine ca_mk (N := ["meaning", "value", "locked"]) (ps := ["meaning", "value", "locked"]) (k := 14) (fs := fs_act) (u := w_act) Fu ⟨rfl, rfl, rfl, nd, rfl, by decide +kernel, by decide +kernel⟩ l_act m_act hm (Fu.bindsN fun _ _ _ _ _ _ us hl => match us, hl with | [_, _, _], _ => rfl) (fun cdv A outer s H E hr => ?_)
  have tk : Takes (cxOf (L2.CX P w) P w K mg base ["meaning", "value", "locked"] "act" (defScope s_act) f cdv A outer s H E) (WD E) := takes_of rfl rfl rfl rfl
  exact (dss_cons (ds_if (dt_not (dt_val (de_call tk c_is_meaning hr (by decide) (da_cons (de_var (pv 0)) da_nil)))) (dss_one ds_never) dss_nil)
    (dss_cons (ds_if ((dw_and (dt_cmp p_notN op_notN (de_bor (pv 1)) de_non) (dw_and1 (dt_not (dt_val (de_call tk c_are_items hr (by decide) (da_cons (de_var (pv 1)) da_nil))))))).dt (dss_one ds_never) dss_nil)
    (dss_cons (ds_if (dt_not (dt_val (de_isi (de_bor (pv 2)) (by decide) (by decide +kernel) b_bool b_isinstance))) (dss_one ds_never) dss_nil)
    (dss_one (ds_ret (de_call tk c_acted hr (by decide) (da_cons (de_call tk c_frozen hr (by decide) (da_cons (de_var (pv 0)) da_nil)) (da_cons (de_call tk c_frozen hr (by decide) (da_cons (de_var (pv 1)) da_nil)) (da_cons (de_var (pv 2)) da_nil)))))))))
abbrev s__law_so : Stmt := top 20
theorem dr__law_so {P : Program} {w : World} {K : PySem.W.Frag} {mg : Str → Option Value} {base : Heap} (b_isinstance : mg "isinstance" = none) (b_tuple : mg "tuple" = none) (b_len : mg "len" = none) (b_range : mg "range" = none) (b_bool : mg "bool" = none) (b_int : mg "int" = none) (b_str : mg "str" = none) {f : Addr} {fd : FuncData} (Fu : Fn K "_law_so" s__law_so f fd) (hm : mg "_law_so" = some (.ref f)) : ∀ n : Nat, Ca P w K mg base "_law_so" (n + 1) (fsr__law_so n)
  | 0 => by
    exact (ca_mk (N := ["found", "meant", "k"]) (ps := ["found", "meant"]) (k := 0) (fs := fsr__law_so 0) (u := wNever) Fu ⟨rfl, rfl, rfl, by decide +kernel, rfl, by decide +kernel, by decide +kernel⟩ (l__law_so 0) (fun as Q X h => (z__law_so as Q X h).elim) hm (Fu.bindsN fun _ _ _ _ _ _ us hl => match us, hl with | [_, _], _ => rfl) (fun cdv A outer s H E hr => dss_never)).mono (by omega)
  | n + 1 => by
    have c__law_so := dr__law_so (P := P) (w := w) (base := base) b_isinstance b_tuple b_len b_range b_bool b_int b_str Fu hm n
    have nd : (["found", "meant", "k"] : List Str).Nodup := by decide +kernel
    refine Ca.mono (k := n + 2) (j := n + 1 + 1) ?_ (by omega)
    refine ca_mk (N := ["found", "meant", "k"]) (ps := ["found", "meant"]) (k := n + 1) (fs := (fsr__law_so (n + 1))) (u := (w__law_so (fsr__law_so n))) Fu ⟨rfl, rfl, rfl, nd, rfl, by decide +kernel, by decide +kernel⟩ (l__law_so (n + 1)) (m__law_so n) hm (Fu.bindsN fun _ _ _ _ _ _ us hl => match us, hl with | [_, _], _ => rfl) (fun cdv A outer s H E hr => ?_)
    have tk : Takes (cxOf (L2.CX P w) P w K mg base ["found", "meant", "k"] "_law_so" (defScope s__law_so) f cdv A outer s H E) (WD E) := takes_of rfl rfl rfl rfl
    exact (dss_cons (ds_if (dt_cmp p_isN op_isN (de_bor (pv 1)) de_non) (dss_one (ds_ret (de_cmp p_isN op_isN (de_bor (pv 0)) de_non))) dss_nil)
    (dss_cons (ds_if (dt_val (de_isi (de_bor (pv 1)) (by decide) (by decide +kernel) b_tuple b_isinstance)) (dss_cons (ds_if ((dw_or (dt_not (dt_val (de_isi (de_bor (pv 0)) (by decide) (by decide +kernel) b_tuple b_isinstance))) (dw_or1 (dt_cmp p_ne (op_neU hr.units) (de_callB p_len call_lenU b_len PySem.boot_len (da_cons (de_bor (pv 0)) da_nil)) (de_callB p_len call_lenU b_len PySem.boot_len (da_cons (de_bor (pv 1)) da_nil)))))).dt (dss_one (ds_ret de_bl)) dss_nil)
    (dss_cons (ds_for (passes_of rfl) rfl (di_rng1 (da_cons (de_callB p_len call_lenU b_len PySem.boot_len (da_cons (de_bor (pv 1)) da_nil)) da_nil) b_range) (pg_n nd) (dss_one (ds_if (dt_not (dt_val (de_call tk c__law_so hr (by omega) (da_cons (de_ix p_ix ix_seq (de_bor (pv 0)) (de_var (pv 2))) (da_cons (de_ix p_ix ix_seq (de_bor (pv 1)) (de_var (pv 2))) da_nil))))) (dss_one (ds_ret de_bl)) dss_nil)))
    (dss_one (ds_ret de_bl)))) dss_nil)
    (dss_cons (ds_if ((dw_or (dt_val (de_isi (de_bor (pv 1)) (by decide) (by decide +kernel) b_bool b_isinstance)) (dw_or1 (dt_val (de_isi (de_bor (pv 0)) (by decide) (by decide +kernel) b_bool b_isinstance))))).dt (dss_one (ds_ret (de_and (de_isi (de_bor (pv 1)) (by decide) (by decide +kernel) b_bool b_isinstance) (de_and (de_isi (de_bor (pv 0)) (by decide) (by decide +kernel) b_bool b_isinstance) (de_one (de_cmp p_eq (op_eqU hr.units) (de_bor (pv 0)) (de_bor (pv 1)))))))) dss_nil)
    (dss_cons (ds_if (dt_val (de_isi (de_bor (pv 1)) (by decide) (by decide +kernel) b_int b_isinstance)) (dss_one (ds_ret (de_and (de_isi (de_bor (pv 0)) (by decide) (by decide +kernel) b_int b_isinstance) (de_one (de_cmp p_eq (op_eqU hr.units) (de_bor (pv 0)) (de_bor (pv 1))))))) dss_nil)
    (dss_one (ds_ret (de_and (de_isi (de_bor (pv 1)) (by decide) (by decide +kernel) b_str b_isinstance) (de_and (de_isi (de_bor (pv 0)) (by decide) (by decide +kernel) b_str b_isinstance) (de_one (de_cmp p_eq (op_eqU hr.units) (de_bor (pv 0)) (de_bor (pv 1))))))))))))
theorem d__law_so {P : Program} {w : World} {K : PySem.W.Frag} {mg : Str → Option Value} {base : Heap} (b_isinstance : mg "isinstance" = none) (b_tuple : mg "tuple" = none) (b_len : mg "len" = none) (b_range : mg "range" = none) (b_bool : mg "bool" = none) (b_int : mg "int" = none) (b_str : mg "str" = none) {f : Addr} {fd : FuncData} (Fu : Fn K "_law_so" s__law_so f fd) (hm : mg "_law_so" = some (.ref f)) : Ca P w K mg base "_law_so" 13 fs__law_so := dr__law_so b_isinstance b_tuple b_len b_range b_bool b_int b_str Fu hm 12
abbrev s__law_numbers : Stmt := top 21
theorem d__law_numbers {P : Program} {w : World} {K : PySem.W.Frag} {mg : Str → Option Value} {base : Heap} (b_range : mg "range" = none) (b_int : mg "int" = none) (b_len : mg "len" = none) {f : Addr} {fd : FuncData} (Fu : Fn K "_law_numbers" s__law_numbers f fd) (hm : mg "_law_numbers" = some (.ref f)) : Ca P w K mg base "_law_numbers" 1 fs__law_numbers := by
  have nd : (["script", "row", "cell", "left", "k", "mixed"] : List Str).Nodup := by decide +kernel
  refine ca_mk (N := ["script", "row", "cell", "left", "k", "mixed"]) (ps := ["script"]) (k := 0) (fs := fs__law_numbers) (u := w__law_numbers) Fu ⟨rfl, rfl, rfl, nd, rfl, by decide +kernel, by decide +kernel⟩ l__law_numbers m__law_numbers hm (Fu.bindsN fun _ _ _ _ _ _ us hl => match us, hl with | [_], _ => rfl) (fun cdv A outer s H E hr => ?_)
  exact (dss_cons (ds_set (de_lst da_nil) nd)
    (dss_cons (ds_for (passes_of rfl) rfl (di_any (de_sl p_sl sl_U (de_bor (pv 0)) do_none (do_some de_int))) (pg_n nd) (dss_one (ds_if (dt_cmp p_cmp op_geU (de_bor (pv 2)) (de_bin (p_int (C := CPow) (g := fun i j => i ^ j.toNat)) op_pow de_int de_int)) (dss_cons (ds_set (de_var (pv 2)) nd)
    (dss_one (ds_for (passes_of rfl) rfl (di_rng1 (da_cons de_int da_nil) b_range) (pg_n nd) (dss_cons (ds_if (dt_cmp p_eq (op_eqU hr.units) (de_bor (pv 3)) de_int) (dss_one ds_break) dss_nil)
    (dss_cons (ds_append (pe_bm PySem.F.plainAttrs_list PySem.F.slot_list_append PySem.F.type_list_append mt_append (pv 1) (pa_cons (DE.pe (de_bin (p_int (C := fun _ j => 0 < j) (g := (· % ·))) op_mod (de_callTy p_toInt call_int1 b_int (by decide +kernel) (da_cons (de_bor (pv 3)) da_nil)) de_int)) pa_nil)))
    (dss_one (ds_set (de_bin (p_int (C := CDiv) (g := (· / ·))) op_fdiv (de_bor (pv 3)) de_int) nd))))))) (dss_one (ds_for (passes_of rfl) rfl (di_rng1 (da_cons de_int da_nil) b_range) (pg_n nd) (dss_cons (ds_set (de_bin (p_int (C := fun _ j => 0 < j) (g := (· % ·))) op_mod (de_callTy p_toInt call_int1 b_int (by decide +kernel) (da_cons (de_bin p_add op_addU (de_bin p_add op_addU (de_bin (p_int (C := CMul) (g := (· * ·))) op_mul (de_bor (pv 2)) de_int) (de_bin (p_int (C := CMul) (g := (· * ·))) op_mul (de_bor (pv 4)) de_int)) de_int) da_nil)) de_int) nd)
    (dss_one (ds_append (pe_bm PySem.F.plainAttrs_list PySem.F.slot_list_append PySem.F.type_list_append mt_append (pv 1) (pa_cons (DE.pe (de_bin (p_int (C := fun _ j => 0 < j) (g := (· % ·))) op_mod (de_callTy p_toInt call_int1 b_int (by decide +kernel) (da_cons (de_bin p_add op_addU (de_bin (p_int (C := CMul) (g := (· * ·))) op_mul (de_bor (pv 5)) de_int) (de_bor (pv 4))) da_nil)) de_int)) pa_nil))))))))))
    (dss_cons (ds_if (dt_cmp p_eq (op_eqU hr.units) (de_callB p_len call_lenU b_len PySem.boot_len (da_cons (de_bor (pv 1)) da_nil)) de_int) (dss_one (ds_append (pe_bm PySem.F.plainAttrs_list PySem.F.slot_list_append PySem.F.type_list_append mt_append (pv 1) (pa_cons (DE.pe de_int) pa_nil)))) dss_nil)
    (dss_one (ds_ret (de_take (pv 1)))))))
abbrev s__law_draw : Stmt := top 22
theorem d__law_draw {P : Program} {w : World} {K : PySem.W.Frag} {mg : Str → Option Value} {base : Heap} (b_len : mg "len" = none) (b_int : mg "int" = none) {f : Addr} {fd : FuncData} (Fu : Fn K "_law_draw" s__law_draw f fd) (hm : mg "_law_draw" = some (.ref f)) : Ca P w K mg base "_law_draw" 1 fs__law_draw := by
  have nd : (["row", "at", "limit", "mixed"] : List Str).Nodup := by decide +kernel
  refine ca_mk (N := ["row", "at", "limit", "mixed"]) (ps := ["row", "at", "limit"]) (k := 0) (fs := fs__law_draw) (u := w__law_draw) Fu ⟨rfl, rfl, rfl, nd, rfl, by decide +kernel, by decide +kernel⟩ l__law_draw m__law_draw hm (Fu.bindsN fun _ _ _ _ _ _ us hl => match us, hl with | [_, _, _], _ => rfl) (fun cdv A outer s H E hr => ?_)
  exact (dss_cons (ds_if (dt_cmp p_cmp op_ltU (de_bor (pv 1)) (de_callB p_len call_lenU b_len PySem.boot_len (da_cons (de_bor (pv 0)) da_nil))) (dss_one (ds_ret (de_bin (p_int (C := fun _ j => 0 < j) (g := (· % ·))) op_mod (de_callTy p_toInt call_int1 b_int (by decide +kernel) (da_cons (de_ix p_ix ix_seq (de_bor (pv 0)) (de_var (pv 1))) da_nil)) (de_bor (pv 2))))) dss_nil)
    (dss_cons (ds_set (de_bin (p_int (C := fun _ j => 0 < j) (g := (· % ·))) op_mod (de_callTy p_toInt call_int1 b_int (by decide +kernel) (da_cons (de_bin p_add op_addU (de_bin p_add op_addU (de_bin (p_int (C := CMul) (g := (· * ·))) op_mul (de_ix p_ix ix_seq (de_bor (pv 0)) (de_bin (p_int (C := fun _ j => 0 < j) (g := (· % ·))) op_mod (de_callTy p_toInt call_int1 b_int (by decide +kernel) (da_cons (de_bor (pv 1)) da_nil)) (de_callB p_len call_lenU b_len PySem.boot_len (da_cons (de_bor (pv 0)) da_nil)))) de_int) (de_bin (p_int (C := CMul) (g := (· * ·))) op_mul (de_bor (pv 1)) de_int)) de_int) da_nil)) de_int) nd)
    (dss_one (ds_ret (de_bin (p_int (C := fun _ j => 0 < j) (g := (· % ·))) op_mod (de_callTy p_toInt call_int1 b_int (by decide +kernel) (da_cons (de_bin (p_int (C := fun _ j => 0 < j) (g := (· % ·))) op_mod (de_callTy p_toInt call_int1 b_int (by decide +kernel) (da_cons (de_bin p_add op_addU (de_bin (p_int (C := CMul) (g := (· * ·))) op_mul (de_bor (pv 3)) de_int) (de_bor (pv 1))) da_nil)) de_int) da_nil)) (de_bor (pv 2)))))))
abbrev s__law_take : Stmt := top 23
theorem d__law_take {P : Program} {w : World} {K : PySem.W.Frag} {mg : Str → Option Value} {base : Heap} (c__law_draw : Ca P w K mg base "_law_draw" 1 fs__law_draw) {f : Addr} {fd : FuncData} (Fu : Fn K "_law_take" s__law_take f fd) (hm : mg "_law_take" = some (.ref f)) : Ca P w K mg base "_law_take" 2 fs__law_take := by
  have nd : (["row", "spot", "limit"] : List Str).Nodup := by decide +kernel
  refine ca_mk (N := ["row", "spot", "limit"]) (ps := ["row", "spot", "limit"]) (k := 1) (fs := fs__law_take) (u := w__law_take) Fu ⟨rfl, rfl, rfl, nd, rfl, by decide +kernel, by decide +kernel⟩ l__law_take m__law_take hm (Fu.bindsN fun _ _ _ _ _ _ us hl => match us, hl with | [_, _, _], _ => rfl) (fun cdv A outer s H E hr => ?_)
  have tk : Takes (cxOf (L2.CX P w) P w K mg base ["row", "spot", "limit"] "_law_take" (defScope s__law_take) f cdv A outer s H E) (WD E) := takes_of rfl rfl rfl rfl
  exact (dss_cons (ds_setIx (pv 1) (de_bin p_add op_addU (de_ix p_ix ix_seq (de_bor (pv 1)) de_int) de_int) de_int)
    (dss_one (ds_ret (de_call tk c__law_draw hr (by decide) (da_cons (de_var (pv 0)) (da_cons (de_bin (p_int (C := fun _ _ => True) (g := (· - ·))) op_subC (de_ix p_ix ix_seq (de_bor (pv 1)) de_int) de_int) (da_cons (de_var (pv 2)) da_nil)))))))
abbrev s__law_letters : Stmt := top 24
theorem d__law_letters {P : Program} {w : World} {K : PySem.W.Frag} {mg : Str → Option Value} {base : Heap} (b_range : mg "range" = none) (b_len : mg "len" = none) (c__law_take : Ca P w K mg base "_law_take" 2 fs__law_take) {f : Addr} {fd : FuncData} (Fu : Fn K "_law_letters" s__law_letters f fd) (hm : mg "_law_letters" = some (.ref f)) : Ca P w K mg base "_law_letters" 3 fs__law_letters := by
  have nd : (["row", "spot", "many", "signs", "made", "k"] : List Str).Nodup := by decide +kernel
  refine ca_mk (N := ["row", "spot", "many", "signs", "made", "k"]) (ps := ["row", "spot", "many", "signs"]) (k := 2) (fs := fs__law_letters) (u := w__law_letters) Fu ⟨rfl, rfl, rfl, nd, rfl, by decide +kernel, by decide +kernel⟩ l__law_letters m__law_letters hm (Fu.bindsN fun _ _ _ _ _ _ us hl => match us, hl with | [_, _, _, _], _ => rfl) (fun cdv A outer s H E hr => ?_)
  have tk : Takes (cxOf (L2.CX P w) P w K mg base ["row", "spot", "many", "signs", "made", "k"] "_law_letters" (defScope s__law_letters) f cdv A outer s H E) (WD E) := takes_of rfl rfl rfl rfl
  exact (dss_cons (ds_set de_str nd)
    (dss_cons (ds_for (passes_of rfl) rfl (di_rng1 (da_cons (de_var (pv 2)) da_nil) b_range) (pg_n nd) (dss_one (ds_set (de_bin p_add op_addU (de_bor (pv 4)) (de_ix p_ix ix_seq (de_bor (pv 3)) (de_call tk c__law_take hr (by decide) (da_cons (de_var (pv 0)) (da_cons (de_bor (pv 1)) (da_cons (de_callB p_len call_lenU b_len PySem.boot_len (da_cons (de_bor (pv 3)) da_nil)) da_nil)))))) nd)))
    (dss_one (ds_ret (de_take (pv 4))))))
abbrev s__law_item : Stmt := top 25
theorem d__law_item {P : Program} {w : World} {K : PySem.W.Frag} {mg : Str → Option Value} {base : Heap} (b_len : mg "len" = none) (c__law_take : Ca P w K mg base "_law_take" 2 fs__law_take) (c__law_letters : Ca P w K mg base "_law_letters" 3 fs__law_letters) {f : Addr} {fd : FuncData} (Fu : Fn K "_law_item" s__law_item f fd) (hm : mg "_law_item" = some (.ref f)) : Ca P w K mg base "_law_item" 4 fs__law_item := by
  have nd : (["row", "spot", "made"] : List Str).Nodup := by decide +kernel
  refine ca_mk (N := ["row", "spot", "made"]) (ps := ["row", "spot"]) (k := 3) (fs := fs__law_item) (u := w__law_item) Fu ⟨rfl, rfl, rfl, nd, rfl, by decide +kernel, by decide +kernel⟩ l__law_item m__law_item hm (Fu.bindsN fun _ _ _ _ _ _ us hl => match us, hl with | [_, _], _ => rfl) (fun cdv A outer s H E hr => ?_)
  have tk : Takes (cxOf (L2.CX P w) P w K mg base ["row", "spot", "made"] "_law_item" (defScope s__law_item) f cdv A outer s H E) (WD E) := takes_of rfl rfl rfl rfl
  exact (dss_cons (ds_if (dt_cmp p_cmp op_gtU (de_call tk c__law_take hr (by decide) (da_cons (de_var (pv 0)) (da_cons (de_bor (pv 1)) (da_cons de_int da_nil)))) de_int) (dss_one (ds_ret (de_ix p_ix ix_seq (de_lst (da_cons de_str (da_cons de_str (da_cons de_str (da_cons de_str (da_cons de_str (da_cons de_str (da_cons de_str (da_cons de_str (da_cons de_str (da_cons de_str da_nil))))))))))) (de_call tk c__law_take hr (by decide) (da_cons (de_var (pv 0)) (da_cons (de_bor (pv 1)) (da_cons de_int da_nil))))))) dss_nil)
    (dss_cons (ds_set (de_call tk c__law_letters hr (by decide) (da_cons (de_var (pv 0)) (da_cons (de_bor (pv 1)) (da_cons (de_bin p_add op_addU de_int (de_call tk c__law_take hr (by decide) (da_cons (de_var (pv 0)) (da_cons (de_bor (pv 1)) (da_cons de_int da_nil))))) (da_cons de_str da_nil))))) nd)
    (dss_cons (ds_if (dt_cmp p_eq (op_eqU hr.units) (de_ix p_ix ix_seq (de_bor (pv 2)) (de_bin (p_int (C := fun _ _ => True) (g := (· - ·))) op_subC (de_callB p_len call_lenU b_len PySem.boot_len (da_cons (de_bor (pv 2)) da_nil)) de_int)) de_str) (dss_one (ds_set (de_bin p_add op_addU (de_sl p_sl sl_U (de_bor (pv 2)) do_none (do_some (de_bin (p_int (C := fun _ _ => True) (g := (· - ·))) op_subC (de_callB p_len call_lenU b_len PySem.boot_len (da_cons (de_bor (pv 2)) da_nil)) de_int))) de_str) nd)) dss_nil)
    (dss_one (ds_ret (de_take (pv 2)))))))
abbrev s__law_items : Stmt := top 26
theorem d__law_items {P : Program} {w : World} {K : PySem.W.Frag} {mg : Str → Option Value} {base : Heap} (b_tuple : mg "tuple" = none) (b_range : mg "range" = none) (c__law_take : Ca P w K mg base "_law_take" 2 fs__law_take) (c__law_item : Ca P w K mg base "_law_item" 4 fs__law_item) {f : Addr} {fd : FuncData} (Fu : Fn K "_law_items" s__law_items f fd) (hm : mg "_law_items" = some (.ref f)) : Ca P w K mg base "_law_items" 5 fs__law_items := by
  have nd : (["row", "spot", "least", "many", "k"] : List Str).Nodup := by decide +kernel
  refine ca_mk (N := ["row", "spot", "least", "many", "k"]) (ps := ["row", "spot", "least", "many"]) (k := 4) (fs := fs__law_items) (u := w__law_items) Fu ⟨rfl, rfl, rfl, nd, rfl, by decide +kernel, by decide +kernel⟩ l__law_items m__law_items hm (Fu.bindsN fun _ _ _ _ _ _ us hl => match us, hl with | [_, _, _, _], _ => rfl) (fun cdv A outer s H E hr => ?_)
  have tk : Takes (cxOf (L2.CX P w) P w K mg base ["row", "spot", "least", "many", "k"] "_law_items" (defScope s__law_items) f cdv A outer s H E) (WD E) := takes_of rfl rfl rfl rfl
  exact (dss_one (ds_ret (de_callTy p_toTup call_tuple_of b_tuple (by decide +kernel) (da_cons (de_lc (own := [("k", 4)]) rfl nd (di_rng1 (da_cons (de_bin p_add op_addU (de_bor (pv 2)) (de_call tk c__law_take hr (by decide) (da_cons (de_var (pv 0)) (da_cons (de_bor (pv 1)) (da_cons (de_var (pv 3)) da_nil))))) da_nil) b_range) (blkOk_by (own := [("k", 4)]) (by show blkC ["row", "spot", "least", "many", "k"] (defScope s__law_items) _ _ = true; decide +kernel)) (fun _ _ _ _ _ => (pg_n nd)) (fun _ _ _ _ _ => dts_nil) (fun _ _ _ _ _ => (de_call takes0 c__law_item hr (by decide) (da_cons (de_var (pv 0)) (da_cons (de_bor (pv 1)) da_nil))))) da_nil))))
abbrev s__law_word : Stmt := top 27
theorem d__law_word {P : Program} {w : World} {K : PySem.W.Frag} {mg : Str → Option Value} {base : Heap} (c__law_take : Ca P w K mg base "_law_take" 2 fs__law_take) {f : Addr} {fd : FuncData} (Fu : Fn K "_law_word" s__law_word f fd) (hm : mg "_law_word" = some (.ref f)) : Ca P w K mg base "_law_word" 3 fs__law_word := by
  have nd : (["row", "spot"] : List Str).Nodup := by decide +kernel
  refine ca_mk (N := ["row", "spot"]) (ps := ["row", "spot"]) (k := 2) (fs := fs__law_word) (u := w__law_word) Fu ⟨rfl, rfl, rfl, nd, rfl, by decide +kernel, by decide +kernel⟩ l__law_word m__law_word hm (Fu.bindsN fun _ _ _ _ _ _ us hl => match us, hl with | [_, _], _ => rfl) (fun cdv A outer s H E hr => ?_)
  have tk : Takes (cxOf (L2.CX P w) P w K mg base ["row", "spot"] "_law_word" (defScope s__law_word) f cdv A outer s H E) (WD E) := takes_of rfl rfl rfl rfl
  exact (dss_one (ds_ret (de_ix p_ix ix_seq (de_lst (da_cons de_str (da_cons de_str (da_cons de_str (da_cons de_str (da_cons de_str (da_cons de_str (da_cons de_str (da_cons de_str (da_cons de_str (da_cons de_str da_nil))))))))))) (de_call tk c__law_take hr (by decide) (da_cons (de_var (pv 0)) (da_cons (de_bor (pv 1)) (da_cons de_int da_nil)))))))
abbrev s__law_items_for : Stmt := top 28
theorem d__law_items_for {P : Program} {w : World} {K : PySem.W.Frag} {mg : Str → Option Value} {base : Heap} (c__law_items : Ca P w K mg base "_law_items" 5 fs__law_items) {f : Addr} {fd : FuncData} (Fu : Fn K "_law_items_for" s__law_items_for f fd) (hm : mg "_law_items_for" = some (.ref f)) : Ca P w K mg base "_law_items_for" 6 fs__law_items_for := by
  have nd : (["row", "spot", "word", "least"] : List Str).Nodup := by decide +kernel
  refine ca_mk (N := ["row", "spot", "word", "least"]) (ps := ["row", "spot", "word"]) (k := 5) (fs := fs__law_items_for) (u := w__law_items_for) Fu ⟨rfl, rfl, rfl, nd, rfl, by decide +kernel, by decide +kernel⟩ l__law_items_for m__law_items_for hm (Fu.bindsN fun _ _ _ _ _ _ us hl => match us, hl with | [_, _, _], _ => rfl) (fun cdv A outer s H E hr => ?_)
  have tk : Takes (cxOf (L2.CX P w) P w K mg base ["row", "spot", "word", "least"] "_law_items_for" (defScope s__law_items_for) f cdv A outer s H E) (WD E) := takes_of rfl rfl rfl rfl
  exact (dss_cons (ds_if ((dw_or (dt_cmp p_eq (op_eqU hr.units) (de_bor (pv 2)) de_str) (dw_or1 (dt_cmp p_eq (op_eqU hr.units) (de_bor (pv 2)) de_str)))).dt (dss_one (ds_ret (de_tup da_nil))) dss_nil)
    (dss_cons (ds_set (de_if ((dw_or (dt_cmp p_eq (op_eqU hr.units) (de_bor (pv 2)) de_str) (dw_or1 (dt_cmp p_eq (op_eqU hr.units) (de_bor (pv 2)) de_str)))).dt de_int de_int) nd)
    (dss_one (ds_ret (de_call tk c__law_items hr (by decide) (da_cons (de_var (pv 0)) (da_cons (de_bor (pv 1)) (da_cons (de_var (pv 3)) (da_cons de_int da_nil)))))))))
abbrev s__law_kept : Stmt := top 29
theorem d__law_kept {P : Program} {w : World} {K : PySem.W.Frag} {mg : Str → Option Value} {base : Heap} (b_tuple : mg "tuple" = none) {f : Addr} {fd : FuncData} (Fu : Fn K "_law_kept" s__law_kept f fd) (hm : mg "_law_kept" = some (.ref f)) : Ca P w K mg base "_law_kept" 1 fs__law_kept := by
  have nd : (["items", "gone", "one"] : List Str).Nodup := by decide +kernel
  refine ca_mk (N := ["items", "gone", "one"]) (ps := ["items", "gone"]) (k := 0) (fs := fs__law_kept) (u := w__law_kept) Fu ⟨rfl, rfl, rfl, nd, rfl, by decide +kernel, by decide +kernel⟩ l__law_kept m__law_kept hm (Fu.bindsN fun _ _ _ _ _ _ us hl => match us, hl with | [_, _], _ => rfl) (fun cdv A outer s H E hr => ?_)
  exact (dss_one (ds_ret (de_callTy p_toTup call_tuple_of b_tuple (by decide +kernel) (da_cons (de_lc (own := [("one", 2)]) rfl nd (di_any (de_var (pv 0))) (blkOk_by (own := [("one", 2)]) (by show blkC ["items", "gone", "one"] (defScope s__law_kept) _ _ = true; decide +kernel)) (fun _ _ _ _ _ => (pg_n nd)) (fun _ _ _ _ _ => (dts_one (dt_cmp p_in op_ninU (de_bor (pv 2)) (de_bor (pv 1))))) (fun _ _ _ _ _ => (de_var (pv 2)))) da_nil))))
abbrev s__law_rising : Stmt := top 31
theorem d__law_rising {P : Program} {w : World} {K : PySem.W.Frag} {mg : Str → Option Value} {base : Heap} (b_sorted : mg "sorted" = none) (b_tuple : mg "tuple" = none) {f : Addr} {fd : FuncData} (Fu : Fn K "_law_rising" s__law_rising f fd) (hm : mg "_law_rising" = some (.ref f)) : Ca P w K mg base "_law_rising" 1 fs__law_rising := by
  have nd : (["items", "made", "one"] : List Str).Nodup := by decide +kernel
  refine ca_mk (N := ["items", "made", "one"]) (ps := ["items"]) (k := 0) (fs := fs__law_rising) (u := w__law_rising) Fu ⟨rfl, rfl, rfl, nd, rfl, by decide +kernel, by decide +kernel⟩ l__law_rising m__law_rising hm (Fu.bindsN fun _ _ _ _ _ _ us hl => match us, hl with | [_], _ => rfl) (fun cdv A outer s H E hr => ?_)
  exact (dss_cons (ds_set (de_lst da_nil) nd)
    (dss_cons (ds_for (passes_of rfl) rfl (di_any (de_callB p_sorted call_sortedU b_sorted (by decide +kernel) (da_cons (de_bor (pv 0)) da_nil))) (pg_n nd) (dss_one (ds_if (dt_cmp p_in op_ninU (de_bor (pv 2)) (de_bor (pv 1))) (dss_one (ds_append (pe_bm PySem.F.plainAttrs_list PySem.F.slot_list_append PySem.F.type_list_append mt_append (pv 1) (pa_cons (DE.pe (de_var (pv 2))) pa_nil)))) dss_nil)))
    (dss_one (ds_ret (de_callTy p_toTup call_tuple_of b_tuple (by decide +kernel) (da_cons (de_bor (pv 1)) da_nil))))))
abbrev s__law_single : Stmt := top 30
theorem d__law_single {P : Program} {w : World} {K : PySem.W.Frag} {mg : Str → Option Value} {base : Heap} (c__law_rising : Ca P w K mg base "_law_rising" 1 fs__law_rising) {f : Addr} {fd : FuncData} (Fu : Fn K "_law_single" s__law_single f fd) (hm : mg "_law_single" = some (.ref f)) : Ca P w K mg base "_law_single" 2 fs__law_single := by
  have nd : (["word", "items"] : List Str).Nodup := by decide +kernel
  refine ca_mk (N := ["word", "items"]) (ps := ["word", "items"]) (k := 1) (fs := fs__law_single) (u := w__law_single) Fu ⟨rfl, rfl, rfl, nd, rfl, by decide +kernel, by decide +kernel⟩ l__law_single m__law_single hm (Fu.bindsN fun _ _ _ _ _ _ us hl => match us, hl with | [_, _], _ => rfl) (fun cdv A outer s H E hr => ?_)
  have tk : Takes (cxOf (L2.CX P w) P w K mg base ["word", "items"] "_law_single" (defScope s__law_single) f cdv A outer s H E) (WD E) := takes_of rfl rfl rfl rfl
  exact (dss_cons (ds_if (dt_cmp p_eq (op_eqU hr.units) (de_bor (pv 0)) de_str) (dss_one (ds_ret (de_tup (da_cons de_str (da_cons (de_var (pv 1)) (da_cons de_bl da_nil)))))) dss_nil)
    (dss_cons (ds_if (dt_cmp p_eq (op_eqU hr.units) (de_bor (pv 0)) de_str) (dss_one (ds_ret (de_tup (da_cons de_str (da_cons de_non (da_cons de_bl da_nil)))))) dss_nil)
    (dss_cons (ds_if (dt_cmp p_eq (op_eqU hr.units) (de_bor (pv 0)) de_str) (dss_one (ds_ret (de_tup (da_cons de_str (da_cons (de_tup da_nil) (da_cons (de_tup da_nil) (da_cons (de_var (pv 1)) (da_cons (de_tup da_nil) (da_cons de_bl da_nil))))))))) dss_nil)
    (dss_cons (ds_if (dt_cmp p_eq (op_eqU hr.units) (de_bor (pv 0)) de_str) (dss_one (ds_ret (de_tup (da_cons de_str (da_cons (de_var (pv 1)) (da_cons (de_tup da_nil) (da_cons (de_tup da_nil) (da_cons (de_tup da_nil) (da_cons de_bl da_nil))))))))) dss_nil)
    (dss_cons (ds_if (dt_cmp p_eq (op_eqU hr.units) (de_bor (pv 0)) de_str) (dss_one (ds_ret (de_tup (da_cons de_str (da_cons (de_tup da_nil) (da_cons (de_call tk c__law_rising hr (by decide) (da_cons (de_var (pv 1)) da_nil)) (da_cons (de_tup da_nil) (da_cons de_non (da_cons de_bl da_nil))))))))) dss_nil)
    (dss_cons (ds_if (dt_cmp p_eq (op_eqU hr.units) (de_bor (pv 0)) de_str) (dss_one (ds_ret (de_tup (da_cons de_str (da_cons (de_tup da_nil) (da_cons (de_tup da_nil) (da_cons (de_tup da_nil) (da_cons (de_var (pv 1)) (da_cons de_bl da_nil))))))))) dss_nil)
    (dss_one (ds_ret (de_tup (da_cons de_str (da_cons (de_tup da_nil) (da_cons (de_tup da_nil) (da_cons (de_tup da_nil) (da_cons de_non (da_cons de_bl da_nil)))))))))))))))
abbrev s__law_after : Stmt := top 32
theorem d__law_after {P : Program} {w : World} {K : PySem.W.Frag} {mg : Str → Option Value} {base : Heap} (b_len : mg "len" = none) (c__law_kept : Ca P w K mg base "_law_kept" 1 fs__law_kept) (c__law_rising : Ca P w K mg base "_law_rising" 1 fs__law_rising) {f : Addr} {fd : FuncData} (Fu : Fn K "_law_after" s__law_after f fd) (hm : mg "_law_after" = some (.ref f)) : Ca P w K mg base "_law_after" 2 fs__law_after := by
  have nd : (["first", "second", "value", "gone", "before", "behind", "default"] : List Str).Nodup := by decide +kernel
  refine ca_mk (N := ["first", "second", "value", "gone", "before", "behind", "default"]) (ps := ["first", "second"]) (k := 1) (fs := fs__law_after) (u := w__law_after) Fu ⟨rfl, rfl, rfl, nd, rfl, by decide +kernel, by decide +kernel⟩ l__law_after m__law_after hm (Fu.bindsN fun _ _ _ _ _ _ us hl => match us, hl with | [_, _], _ => rfl) (fun cdv A outer s H E hr => ?_)
  have tk : Takes (cxOf (L2.CX P w) P w K mg base ["first", "second", "value", "gone", "before", "behind", "default"] "_law_after" (defScope s__law_after) f cdv A outer s H E) (WD E) := takes_of rfl rfl rfl rfl
  exact (dss_cons (ds_if (dt_val (de_ix p_ix ix_seq (de_bor (pv 0)) (de_bin (p_int (C := fun _ _ => True) (g := (· - ·))) op_subC (de_callB p_len call_lenU b_len PySem.boot_len (da_cons (de_bor (pv 0)) da_nil)) de_int))) (dss_one (ds_ret (de_take (pv 0)))) dss_nil)
    (dss_cons (ds_if (dt_cmp p_eq (op_eqU hr.units) (de_ix p_ix ix_seq (de_bor (pv 1)) de_int) de_str) (dss_one (ds_ret (de_take (pv 1)))) dss_nil)
    (dss_cons (ds_if (dt_cmp p_eq (op_eqU hr.units) (de_ix p_ix ix_seq (de_bor (pv 0)) de_int) de_str) (dss_cons (ds_set (de_ix p_ix ix_seq (de_bor (pv 0)) de_int) nd)
    (dss_cons (ds_if (dt_cmp p_isN op_isN (de_bor (pv 2)) de_non) (dss_one (ds_set (de_if (dt_cmp p_isN op_isN (de_ix p_ix ix_seq (de_bor (pv 1)) de_int) de_non) de_non (de_bin p_add op_addU (de_bin p_add op_addU (de_ix p_ix ix_seq (de_bor (pv 1)) de_int) (de_ix p_ix ix_seq (de_bor (pv 1)) de_int)) (de_ix p_ix ix_seq (de_bor (pv 1)) de_int))) nd)) (dss_one (ds_set (de_bin p_add op_addU (de_bin p_add op_addU (de_ix p_ix ix_seq (de_bor (pv 1)) de_int) (de_call tk c__law_kept hr (by decide) (da_cons (de_var (pv 2)) (da_cons (de_ix p_ix ix_seq (de_bor (pv 1)) de_int) da_nil)))) (de_ix p_ix ix_seq (de_bor (pv 1)) de_int)) nd)))
    (dss_one (ds_ret (de_tup (da_cons de_str (da_cons (de_var (pv 2)) (da_cons (de_ix p_ix ix_seq (de_bor (pv 1)) de_int) da_nil)))))))) dss_nil)
    (dss_cons (ds_set (de_ix p_ix ix_seq (de_bor (pv 1)) de_int) nd)
    (dss_cons (ds_set (de_bin p_add op_addU (de_ix p_ix ix_seq (de_bor (pv 1)) de_int) (de_call tk c__law_kept hr (by decide) (da_cons (de_ix p_ix ix_seq (de_bor (pv 0)) de_int) (da_cons (de_var (pv 3)) da_nil)))) nd)
    (dss_cons (ds_set (de_bin p_add op_addU (de_call tk c__law_kept hr (by decide) (da_cons (de_ix p_ix ix_seq (de_bor (pv 0)) de_int) (da_cons (de_var (pv 3)) da_nil))) (de_ix p_ix ix_seq (de_bor (pv 1)) de_int)) nd)
    (dss_cons (ds_set (de_if (dt_cmp p_isN op_isN (de_ix p_ix ix_seq (de_bor (pv 0)) de_int) de_non) (de_ix p_ix ix_seq (de_bor (pv 1)) de_int) (de_call tk c__law_kept hr (by decide) (da_cons (de_ix p_ix ix_seq (de_bor (pv 0)) de_int) (da_cons (de_var (pv 3)) da_nil)))) nd)
    (dss_one (ds_ret (de_tup (da_cons de_str (da_cons (de_var (pv 4)) (da_cons (de_call tk c__law_rising hr (by decide) (da_cons (de_bin p_add op_addU (de_ix p_ix ix_seq (de_bor (pv 0)) de_int) (de_bor (pv 3))) da_nil)) (da_cons (de_var (pv 5)) (da_cons (de_var (pv 6)) (da_cons (de_ix p_ix ix_seq (de_bor (pv 1)) de_int) da_nil))))))))))))))))
abbrev s__law_act : Stmt := top 33
theorem d__law_act {P : Program} {w : World} {K : PySem.W.Frag} {mg : Str → Option Value} {base : Heap} (c__law_kept : Ca P w K mg base "_law_kept" 1 fs__law_kept) {f : Addr} {fd : FuncData} (Fu : Fn K "_law_act" s__law_act f fd) (hm : mg "_law_act" = some (.ref f)) : Ca P w K mg base "_law_act" 2 fs__law_act := by
  have nd : (["meta", "value"] : List Str).Nodup := by decide +kernel
  refine ca_mk (N := ["meta", "value"]) (ps := ["meta", "value"]) (k := 1) (fs := fs__law_act) (u := w__law_act) Fu ⟨rfl, rfl, rfl, nd, rfl, by decide +kernel, by decide +kernel⟩ l__law_act m__law_act hm (Fu.bindsN fun _ _ _ _ _ _ us hl => match us, hl with | [_, _], _ => rfl) (fun cdv A outer s H E hr => ?_)
  have tk : Takes (cxOf (L2.CX P w) P w K mg base ["meta", "value"] "_law_act" (defScope s__law_act) f cdv A outer s H E) (WD E) := takes_of rfl rfl rfl rfl
  exact (dss_cons (ds_if (dt_cmp p_eq (op_eqU hr.units) (de_ix p_ix ix_seq (de_bor (pv 0)) de_int) de_str) (dss_one (ds_ret (de_ix p_ix ix_seq (de_bor (pv 0)) de_int))) dss_nil)
    (dss_cons (ds_if (dt_cmp p_isN op_isN (de_bor (pv 1)) de_non) (dss_one (ds_ret (de_if (dt_cmp p_isN op_isN (de_ix p_ix ix_seq (de_bor (pv 0)) de_int) de_non) de_non (de_bin p_add op_addU (de_bin p_add op_addU (de_ix p_ix ix_seq (de_bor (pv 0)) de_int) (de_ix p_ix ix_seq (de_bor (pv 0)) de_int)) (de_ix p_ix ix_seq (de_bor (pv 0)) de_int))))) dss_nil)
    (dss_one (ds_ret (de_bin p_add op_addU (de_bin p_add op_addU (de_ix p_ix ix_seq (de_bor (pv 0)) de_int) (de_call tk c__law_kept hr (by decide) (da_cons (de_var (pv 1)) (da_cons (de_ix p_ix ix_seq (de_bor (pv 0)) de_int) da_nil)))) (de_ix p_ix ix_seq (de_bor (pv 0)) de_int))))))
abbrev s__law_stuff : Stmt := top 34
theorem d__law_stuff {P : Program} {w : World} {K : PySem.W.Frag} {mg : Str → Option Value} {base : Heap}  {f : Addr} {fd : FuncData} (Fu : Fn K "_law_stuff" s__law_stuff f fd) (hm : mg "_law_stuff" = some (.ref f)) : Ca P w K mg base "_law_stuff" 1 fs__law_stuff := by
  have nd : (["meta"] : List Str).Nodup := by decide +kernel
  refine ca_mk (N := ["meta"]) (ps := ["meta"]) (k := 0) (fs := fs__law_stuff) (u := w__law_stuff) Fu ⟨rfl, rfl, rfl, nd, rfl, by decide +kernel, by decide +kernel⟩ l__law_stuff m__law_stuff hm (Fu.bindsN fun _ _ _ _ _ _ us hl => match us, hl with | [_], _ => rfl) (fun cdv A outer s H E hr => ?_)
  exact (dss_cons (ds_if (dt_cmp p_eq (op_eqU hr.units) (de_ix p_ix ix_seq (de_bor (pv 0)) de_int) de_str) (dss_one (ds_ret (de_if (dt_cmp p_isN op_isN (de_ix p_ix ix_seq (de_bor (pv 0)) de_int) de_non) (de_tup da_nil) (de_ix p_ix ix_seq (de_bor (pv 0)) de_int)))) dss_nil)
    (dss_one (ds_ret (de_bin p_add op_addU (de_bin p_add op_addU (de_bin p_add op_addU (de_ix p_ix ix_seq (de_bor (pv 0)) de_int) (de_ix p_ix ix_seq (de_bor (pv 0)) de_int)) (de_ix p_ix ix_seq (de_bor (pv 0)) de_int)) (de_if (dt_cmp p_isN op_isN (de_ix p_ix ix_seq (de_bor (pv 0)) de_int) de_non) (de_tup da_nil) (de_ix p_ix ix_seq (de_bor (pv 0)) de_int))))))
abbrev s__law_trials_of : Stmt := top 35
theorem d__law_trials_of {P : Program} {w : World} {K : PySem.W.Frag} {mg : Str → Option Value} {base : Heap} (b_sum : mg "sum" = none) (b_list : mg "list" = none) (b_range : mg "range" = none) (b_len : mg "len" = none) (b_str : mg "str" = none) (c__law_rising : Ca P w K mg base "_law_rising" 1 fs__law_rising) (c__law_stuff : Ca P w K mg base "_law_stuff" 1 fs__law_stuff) {f : Addr} {fd : FuncData} (Fu : Fn K "_law_trials_of" s__law_trials_of f fd) (hm : mg "_law_trials_of" = some (.ref f)) : Ca P w K mg base "_law_trials_of" 2 fs__law_trials_of := by
  have nd : (["metas", "items", "one", "fresh", "k", "item"] : List Str).Nodup := by decide +kernel
  refine ca_mk (N := ["metas", "items", "one", "fresh", "k", "item"]) (ps := ["metas"]) (k := 1) (fs := fs__law_trials_of) (u := w__law_trials_of) Fu ⟨rfl, rfl, rfl, nd, rfl, by decide +kernel, by decide +kernel⟩ l__law_trials_of m__law_trials_of hm (Fu.bindsN fun _ _ _ _ _ _ us hl => match us, hl with | [_], _ => rfl) (fun cdv A outer s H E hr => ?_)
  have tk : Takes (cxOf (L2.CX P w) P w K mg base ["metas", "items", "one", "fresh", "k", "item"] "_law_trials_of" (defScope s__law_trials_of) f cdv A outer s H E) (WD E) := takes_of rfl rfl rfl rfl
  exact (dss_cons (ds_set (de_call tk c__law_rising hr (by decide) (da_cons (de_callB p_sumL (cr_sumL rfl) b_sum (by decide +kernel) (da_cons (de_lc (own := [("one", 2)]) rfl nd (di_any (de_var (pv 0))) (blkOk_by (own := [("one", 2)]) (by show blkC ["metas", "items", "one", "fresh", "k", "item"] (defScope s__law_trials_of) _ _ = true; decide +kernel)) (fun _ _ _ _ _ => (pg_n nd)) (fun _ _ _ _ _ => dts_nil) (fun _ _ _ _ _ => (de_callTy p_toLst call_list_of b_list (by decide +kernel) (da_cons (de_call takes0 c__law_stuff hr (by decide) (da_cons (de_var (pv 2)) da_nil)) da_nil)))) (da_cons (de_lst da_nil) da_nil))) da_nil)) nd)
    (dss_cons (ds_set (de_ix p_ix ix_seq (de_lc (own := [("k", 4)]) rfl nd (di_rng1 (da_cons (de_bin p_add op_addU (de_callB p_len call_lenU b_len PySem.boot_len (da_cons (de_bor (pv 1)) da_nil)) de_int) da_nil) b_range) (blkOk_by (own := [("k", 4)]) (by show blkC ["metas", "items", "one", "fresh", "k", "item"] (defScope s__law_trials_of) _ _ = true; decide +kernel)) (fun _ _ _ _ _ => (pg_n nd)) (fun _ _ _ _ _ => (dts_one (dt_cmp p_in op_ninU (de_bin p_add op_addU de_str (de_callTy p_toStr call_str_int b_str (by decide +kernel) (da_cons (de_bor (pv 4)) da_nil))) (de_bor (pv 1))))) (fun _ _ _ _ _ => (de_bin p_add op_addU de_str (de_callTy p_toStr call_str_int b_str (by decide +kernel) (da_cons (de_bor (pv 4)) da_nil))))) de_int) nd)
    (dss_one (ds_ret (de_bin p_add op_addU (de_bin p_add op_addU (de_lst (da_cons de_non (da_cons (de_tup da_nil) da_nil))) (de_lc (own := [("item", 5)]) rfl nd (di_any (de_var (pv 1))) (blkOk_by (own := [("item", 5)]) (by show blkC ["metas", "items", "one", "fresh", "k", "item"] (defScope s__law_trials_of) _ _ = true; decide +kernel)) (fun _ _ _ _ _ => (pg_n nd)) (fun _ _ _ _ _ => dts_nil) (fun _ _ _ _ _ => (de_tup (da_cons (de_var (pv 5)) da_nil))))) (de_lst (da_cons (de_tup (da_cons (de_var (pv 3)) da_nil)) da_nil)))))))
abbrev s__law_random_meaning : Stmt := top 36
theorem d__law_random_meaning {P : Program} {w : World} {K : PySem.W.Frag} {mg : Str → Option Value} {base : Heap} (b_range : mg "range" = none) (c__law_take : Ca P w K mg base "_law_take" 2 fs__law_take) (c__law_word : Ca P w K mg base "_law_word" 3 fs__law_word) (c__law_after : Ca P w K mg base "_law_after" 2 fs__law_after) (c__law_single : Ca P w K mg base "_law_single" 2 fs__law_single) (c__law_items_for : Ca P w K mg base "_law_items_for" 6 fs__law_items_for) {f : Addr} {fd : FuncData} (Fu : Fn K "_law_random_meaning" s__law_random_meaning f fd) (hm : mg "_law_random_meaning" = some (.ref f)) : Ca P w K mg base "_law_random_meaning" 7 fs__law_random_meaning := by
  have nd : (["row", "spot", "made", "k", "word"] : List Str).Nodup := by decide +kernel
  refine ca_mk (N := ["row", "spot", "made", "k", "word"]) (ps := ["row", "spot"]) (k := 6) (fs := fs__law_random_meaning) (u := w__law_random_meaning) Fu ⟨rfl, rfl, rfl, nd, rfl, by decide +kernel, by decide +kernel⟩ l__law_random_meaning m__law_random_meaning hm (Fu.bindsN fun _ _ _ _ _ _ us hl => match us, hl with | [_, _], _ => rfl) (fun cdv A outer s H E hr => ?_)
  have tk : Takes (cxOf (L2.CX P w) P w K mg base ["row", "spot", "made", "k", "word"] "_law_random_meaning" (defScope s__law_random_meaning) f cdv A outer s H E) (WD E) := takes_of rfl rfl rfl rfl
  exact (dss_cons (ds_set (de_tup (da_cons de_str (da_cons (de_tup da_nil) (da_cons (de_tup da_nil) (da_cons (de_tup da_nil) (da_cons de_non (da_cons de_bl da_nil))))))) nd)
    (dss_cons (ds_for (passes_of rfl) rfl (di_rng1 (da_cons (de_call tk c__law_take hr (by decide) (da_cons (de_var (pv 0)) (da_cons (de_bor (pv 1)) (da_cons de_int da_nil)))) da_nil) b_range) (pg_n nd) (dss_cons (ds_set (de_call tk c__law_word hr (by decide) (da_cons (de_var (pv 0)) (da_cons (de_bor (pv 1)) da_nil))) nd)
    (dss_one (ds_if ((dw_or (dt_cmp p_ne (op_neU hr.units) (de_bor (pv 4)) de_str) (dw_or1 (dt_cmp p_eq (op_eqU hr.units) (de_call tk c__law_take hr (by decide) (da_cons (de_var (pv 0)) (da_cons (de_bor (pv 1)) (da_cons de_int da_nil)))) de_int)))).dt (dss_one (ds_set (de_call tk c__law_after hr (by decide) (da_cons (de_var (pv 2)) (da_cons (de_call tk c__law_single hr (by decide) (da_cons (de_var (pv 4)) (da_cons (de_call tk c__law_items_for hr (by decide) (da_cons (de_var (pv 0)) (da_cons (de_bor (pv 1)) (da_cons (de_var (pv 4)) da_nil)))) da_nil))) da_nil))) nd)) dss_nil))))
    (dss_one (ds_ret (de_take (pv 2))))))
abbrev s_law : Stmt := top 37
theorem d_law {P : Program} {w : World} {K : PySem.W.Frag} {mg : Str → Option Value} {base : Heap} (b_len : mg "len" = none) (c__law_numbers : Ca P w K mg base "_law_numbers" 1 fs__law_numbers) (c__law_random_meaning : Ca P w K mg base "_law_random_meaning" 7 fs__law_random_meaning) (c__law_take : Ca P w K mg base "_law_take" 2 fs__law_take) (c__law_word : Ca P w K mg base "_law_word" 3 fs__law_word) (c__law_after : Ca P w K mg base "_law_after" 2 fs__law_after) (c__law_single : Ca P w K mg base "_law_single" 2 fs__law_single) (c__law_items_for : Ca P w K mg base "_law_items_for" 6 fs__law_items_for) (c__law_trials_of : Ca P w K mg base "_law_trials_of" 2 fs__law_trials_of) (c_act : Ca P w K mg base "act" 15 fs_act) (c__law_so : Ca P w K mg base "_law_so" 13 fs__law_so) (c__law_act : Ca P w K mg base "_law_act" 2 fs__law_act) {f : Addr} {fd : FuncData} (Fu : Fn K "law" s_law f fd) (hm : mg "law" = some (.ref f)) : FnOk P w K mg base (L2.CX P w) 16 f fd ["script"] (spOf K mg fs_law) := by
  have nd : (["script", "row", "spot", "one", "other", "word", "found", "trial", "first", "second"] : List Str).Nodup := by decide +kernel
  refine fn_dlD (N := ["script", "row", "spot", "one", "other", "word", "found", "trial", "first", "second"]) (ps := ["script"]) (k := 15) (fs := fs_law) (u := w_law) Fu ⟨rfl, rfl, rfl, nd, rfl, by decide +kernel, by decide +kernel⟩ l_law (fun cdv A outer s H E hr => ?_) m_law
  have tk : Takes (cxOf (L2.CX P w) P w K mg base ["script", "row", "spot", "one", "other", "word", "found", "trial", "first", "second"] "law" (defScope s_law) f cdv A outer s H E) (WD E) := takes_of rfl rfl rfl rfl
  rw [e_law, e_law_12, e_law_11, e_law_10, e_law_9, e_law_8, e_law_7, e_law_6, e_law_5, e_law_4, e_law_3, e_law_2, e_law_1]
  exact (dss_cons (ds_set (de_call tk c__law_numbers hr (by decide) (da_cons (de_var (pv 0)) da_nil)) nd)
    (dss_cons (ds_set (de_lst (da_cons de_int da_nil)) nd)
    (dss_cons (ds_set (de_call tk c__law_random_meaning hr (by decide) (da_cons (de_var (pv 1)) (da_cons (de_bor (pv 2)) da_nil))) nd)
    (dss_cons (ds_set (de_call tk c__law_random_meaning hr (by decide) (da_cons (de_var (pv 1)) (da_cons (de_bor (pv 2)) da_nil))) nd)
    (dss_cons (ds_if (dt_cmp p_eq (op_eqU hr.units) (de_call tk c__law_take hr (by decide) (da_cons (de_var (pv 1)) (da_cons (de_bor (pv 2)) (da_cons de_int da_nil)))) de_int) (dss_cons (ds_set (de_call tk c__law_word hr (by decide) (da_cons (de_var (pv 1)) (da_cons (de_bor (pv 2)) da_nil))) nd)
    (dss_one (ds_set (de_call tk c__law_after hr (by decide) (da_cons (de_var (pv 3)) (da_cons (de_call tk c__law_single hr (by decide) (da_cons (de_var (pv 5)) (da_cons (de_call tk c__law_items_for hr (by decide) (da_cons (de_var (pv 1)) (da_cons (de_bor (pv 2)) (da_cons (de_var (pv 5)) da_nil)))) da_nil))) da_nil))) nd))) dss_nil)
    (dss_cons (ds_set de_bl nd)
    (dss_cons (ds_for (passes_of rfl) rfl (di_any (de_call tk c__law_trials_of hr (by decide) (da_cons (de_lst (da_cons (de_var (pv 3)) (da_cons (de_var (pv 4)) da_nil))) da_nil))) (pg_n nd) (dss_cons (ds_set (de_call tk c_act hr (by decide) (da_cons (de_var (pv 3)) (da_cons (de_var (pv 7)) (da_cons de_bl da_nil)))) nd)
    (dss_cons (ds_set (de_call tk c_act hr (by decide) (da_cons (de_var (pv 4)) (da_cons (de_var (pv 7)) (da_cons de_bl da_nil)))) nd)
    (dss_cons (ds_if ((dw_or (dt_not (dt_val (de_call tk c__law_so hr (by decide) (da_cons (de_var (pv 8)) (da_cons (de_tup (da_cons (de_call tk c__law_act hr (by decide) (da_cons (de_var (pv 3)) (da_cons (de_var (pv 7)) da_nil))) (da_cons (de_ix p_ix ix_seq (de_bor (pv 3)) (de_bin (p_int (C := fun _ _ => True) (g := (· - ·))) op_subC (de_callB p_len call_lenU b_len PySem.boot_len (da_cons (de_bor (pv 3)) da_nil)) de_int)) da_nil))) da_nil))))) (dw_or1 (dt_not (dt_val (de_call tk c__law_so hr (by decide) (da_cons (de_var (pv 9)) (da_cons (de_tup (da_cons (de_call tk c__law_act hr (by decide) (da_cons (de_var (pv 4)) (da_cons (de_var (pv 7)) da_nil))) (da_cons (de_ix p_ix ix_seq (de_bor (pv 4)) (de_bin (p_int (C := fun _ _ => True) (g := (· - ·))) op_subC (de_callB p_len call_lenU b_len PySem.boot_len (da_cons (de_bor (pv 4)) da_nil)) de_int)) da_nil))) da_nil)))))))).dt (dss_one (ds_ret de_bl)) dss_nil)
    (dss_one (ds_if (dt_cmp p_ne (op_neU hr.units) (de_bor (pv 8)) (de_bor (pv 9))) (dss_one (ds_set de_bl nd)) dss_nil))))))
    (dss_one (ds_ret (de_cmp p_eq (op_eqU hr.units) (de_bor (pv 6)) (de_cmp p_ne (op_neU hr.units) (de_bor (pv 3)) (de_bor (pv 4)))))))))))))
abbrev Rw : PySem.W.OpenRow := PySem.W.OpenLaw.row PySem.Challenge.rw_layeredwords_k13_whole_unlike_meanings_a
def t_is_sequence : He.DefD := ⟨("is_sequence", none), "is_sequence", "is_sequence", defArgs s_is_sequence, defBody s_is_sequence, defScope s_is_sequence, [], []⟩
def t_frozen : He.DefD := ⟨("frozen", none), "frozen", "frozen", defArgs s_frozen, defBody s_frozen, defScope s_frozen, [], []⟩
def t_is_letter : He.DefD := ⟨("is_letter", none), "is_letter", "is_letter", defArgs s_is_letter, defBody s_is_letter, defScope s_is_letter, [], []⟩
def t_has_signs : He.DefD := ⟨("has_signs", none), "has_signs", "has_signs", defArgs s_has_signs, defBody s_has_signs, defScope s_has_signs, [], []⟩
def t_is_item_word : He.DefD := ⟨("is_item_word", none), "is_item_word", "is_item_word", defArgs s_is_item_word, defBody s_is_item_word, defScope s_is_item_word, [], []⟩
def t_are_items : He.DefD := ⟨("are_items", none), "are_items", "are_items", defArgs s_are_items, defBody s_are_items, defScope s_are_items, [], []⟩
def t_is_meaning_row : He.DefD := ⟨("is_meaning_row", none), "is_meaning_row", "is_meaning_row", defArgs s_is_meaning_row, defBody s_is_meaning_row, defScope s_is_meaning_row, [], []⟩
def t_left_of : He.DefD := ⟨("left_of", none), "left_of", "left_of", defArgs s_left_of, defBody s_left_of, defScope s_left_of, [], []⟩
def t_value_behind : He.DefD := ⟨("value_behind", none), "value_behind", "value_behind", defArgs s_value_behind, defBody s_value_behind, defScope s_value_behind, [], []⟩
def t_acted : He.DefD := ⟨("acted", none), "acted", "acted", defArgs s_acted, defBody s_acted, defScope s_acted, [], []⟩
def t_is_meaning : He.DefD := ⟨("is_meaning", none), "is_meaning", "is_meaning", defArgs s_is_meaning, defBody s_is_meaning, defScope s_is_meaning, [], []⟩
def t_act : He.DefD := ⟨("act", none), "act", "act", defArgs s_act, defBody s_act, defScope s_act, [], []⟩
def t__law_so : He.DefD := ⟨("_law_so", none), "_law_so", "_law_so", defArgs s__law_so, defBody s__law_so, defScope s__law_so, [], []⟩
def t__law_numbers : He.DefD := ⟨("_law_numbers", none), "_law_numbers", "_law_numbers", defArgs s__law_numbers, defBody s__law_numbers, defScope s__law_numbers, [], []⟩
def t__law_draw : He.DefD := ⟨("_law_draw", none), "_law_draw", "_law_draw", defArgs s__law_draw, defBody s__law_draw, defScope s__law_draw, [], []⟩
def t__law_take : He.DefD := ⟨("_law_take", none), "_law_take", "_law_take", defArgs s__law_take, defBody s__law_take, defScope s__law_take, [], []⟩
def t__law_letters : He.DefD := ⟨("_law_letters", none), "_law_letters", "_law_letters", defArgs s__law_letters, defBody s__law_letters, defScope s__law_letters, [], []⟩
def t__law_item : He.DefD := ⟨("_law_item", none), "_law_item", "_law_item", defArgs s__law_item, defBody s__law_item, defScope s__law_item, [], []⟩
def t__law_items : He.DefD := ⟨("_law_items", none), "_law_items", "_law_items", defArgs s__law_items, defBody s__law_items, defScope s__law_items, [], []⟩
def t__law_word : He.DefD := ⟨("_law_word", none), "_law_word", "_law_word", defArgs s__law_word, defBody s__law_word, defScope s__law_word, [], []⟩
def t__law_items_for : He.DefD := ⟨("_law_items_for", none), "_law_items_for", "_law_items_for", defArgs s__law_items_for, defBody s__law_items_for, defScope s__law_items_for, [], []⟩
def t__law_kept : He.DefD := ⟨("_law_kept", none), "_law_kept", "_law_kept", defArgs s__law_kept, defBody s__law_kept, defScope s__law_kept, [], []⟩
def t__law_rising : He.DefD := ⟨("_law_rising", none), "_law_rising", "_law_rising", defArgs s__law_rising, defBody s__law_rising, defScope s__law_rising, [], []⟩
def t__law_single : He.DefD := ⟨("_law_single", none), "_law_single", "_law_single", defArgs s__law_single, defBody s__law_single, defScope s__law_single, [], []⟩
def t__law_after : He.DefD := ⟨("_law_after", none), "_law_after", "_law_after", defArgs s__law_after, defBody s__law_after, defScope s__law_after, [], []⟩
def t__law_act : He.DefD := ⟨("_law_act", none), "_law_act", "_law_act", defArgs s__law_act, defBody s__law_act, defScope s__law_act, [], []⟩
def t__law_stuff : He.DefD := ⟨("_law_stuff", none), "_law_stuff", "_law_stuff", defArgs s__law_stuff, defBody s__law_stuff, defScope s__law_stuff, [], []⟩
def t__law_trials_of : He.DefD := ⟨("_law_trials_of", none), "_law_trials_of", "_law_trials_of", defArgs s__law_trials_of, defBody s__law_trials_of, defScope s__law_trials_of, [], []⟩
def t__law_random_meaning : He.DefD := ⟨("_law_random_meaning", none), "_law_random_meaning", "_law_random_meaning", defArgs s__law_random_meaning, defBody s__law_random_meaning, defScope s__law_random_meaning, [], []⟩
def t_law : He.DefD := ⟨("law", none), "law", "law", defArgs s_law, defBody s_law, defScope s_law, [], []⟩
def fnL : List He.DefD := [t_is_sequence, t_frozen, t_is_letter, t_has_signs, t_is_item_word, t_are_items, t_is_meaning_row, t_left_of, t_value_behind, t_acted, t_is_meaning, t_act, t__law_so, t__law_numbers, t__law_draw, t__law_take, t__law_letters, t__law_item, t__law_items, t__law_word, t__law_items_for, t__law_kept, t__law_rising, t__law_single, t__law_after, t__law_act, t__law_stuff, t__law_trials_of, t__law_random_meaning, t_law]
def faL : List He.Fa := [.glo "is_sequence", .glo "frozen", .glo "is_letter", .glo "has_signs", .glo "is_item_word", .glo "are_items", .glo "is_meaning_row", .glo "left_of", .glo "value_behind", .glo "acted", .glo "is_meaning", .glo "act", .glo "_law_so", .glo "_law_numbers", .glo "_law_draw", .glo "_law_take", .glo "_law_letters", .glo "_law_item", .glo "_law_items", .glo "_law_word", .glo "_law_items_for", .glo "_law_kept", .glo "_law_rising", .glo "_law_single", .glo "_law_after", .glo "_law_act", .glo "_law_stuff", .glo "_law_trials_of", .glo "_law_random_meaning", .glo "law", .free "isinstance", .free "list", .free "tuple", .free "str", .free "len", .free "all", .free "bool", .free "range", .free "int", .free "sorted", .free "sum"]
def csL : List (Str × PyData) := [("MOST_SIGNS", (PyData.int 40))]
def namesL : List Str := (["MOST_SIGNS", "is_sequence", "frozen", "is_letter", "has_signs", "is_item_word", "are_items", "is_meaning_row", "left_of", "value_behind", "acted", "LayerError", "BadValue", "is_meaning", "act", "_law_so", "_law_numbers", "_law_draw", "_law_take", "_law_letters", "_law_item", "_law_items", "_law_word", "_law_items_for", "_law_kept", "_law_single", "_law_rising", "_law_after", "_law_act", "_law_stuff"] : List Str) ++ (["_law_trials_of", "_law_random_meaning"] : List Str)
abbrev hk : PySem.W.Hook := hookC 6 csL faL fnL
def ob (s : PySem.W.SharedT) : He.AlD := obsCG 6 csL faL fnL (HandSHeadRun.getT s)
theorem ob_eq (s : PySem.W.SharedT) : ob s = hk.obs s.abs := obsCG_eq (HandSHeadRun.getT_eq s)
set_option maxHeartbeats 0 in
theorem run (w : World) : HandSHeadRun.RunEq Rw (PySem.W.view Rw.prog [37]) hk ob 3000 namesL w := by
  intro os
  kernel_rfl
theorem factsL {P : Program} {w : World} {K : PySem.W.Frag} {h : Heap} {mg : Str → Option Value} {f : Addr} (X : K.In h) (G : h.Ns mainGlobals mg) (hfa : mg ("law" : Str) = some (.ref f)) (c0 : SaysC csL faL fnL K) :
    ∃ fd : FuncData, (∀ (s : Shared) (v : Value), BindsTo s fd ⟨[v], []⟩ [("script", v)]) ∧ ∀ base : Heap, K.In base → base.Ns mainGlobals mg → FnOk P w K mg base (L2.CX P w) 16 f fd ["script"] (spOf K mg fs_law) := by
  have c := c0.d
  obtain ⟨e_is_sequence, F_is_sequence⟩ := c.def_ 0 (d := t_is_sequence) rfl
  obtain ⟨e_frozen, F_frozen⟩ := c.def_ 1 (d := t_frozen) rfl
  obtain ⟨e_is_letter, F_is_letter⟩ := c.def_ 2 (d := t_is_letter) rfl
  obtain ⟨e_has_signs, F_has_signs⟩ := c.def_ 3 (d := t_has_signs) rfl
  obtain ⟨e_is_item_word, F_is_item_word⟩ := c.def_ 4 (d := t_is_item_word) rfl
  obtain ⟨e_are_items, F_are_items⟩ := c.def_ 5 (d := t_are_items) rfl
  obtain ⟨e_is_meaning_row, F_is_meaning_row⟩ := c.def_ 6 (d := t_is_meaning_row) rfl
  obtain ⟨e_left_of, F_left_of⟩ := c.def_ 7 (d := t_left_of) rfl
  obtain ⟨e_value_behind, F_value_behind⟩ := c.def_ 8 (d := t_value_behind) rfl
  obtain ⟨e_acted, F_acted⟩ := c.def_ 9 (d := t_acted) rfl
  obtain ⟨e_is_meaning, F_is_meaning⟩ := c.def_ 10 (d := t_is_meaning) rfl
  obtain ⟨e_act, F_act⟩ := c.def_ 11 (d := t_act) rfl
  obtain ⟨e__law_so, F__law_so⟩ := c.def_ 12 (d := t__law_so) rfl
  obtain ⟨e__law_numbers, F__law_numbers⟩ := c.def_ 13 (d := t__law_numbers) rfl
  obtain ⟨e__law_draw, F__law_draw⟩ := c.def_ 14 (d := t__law_draw) rfl
  obtain ⟨e__law_take, F__law_take⟩ := c.def_ 15 (d := t__law_take) rfl
  obtain ⟨e__law_letters, F__law_letters⟩ := c.def_ 16 (d := t__law_letters) rfl
  obtain ⟨e__law_item, F__law_item⟩ := c.def_ 17 (d := t__law_item) rfl
  obtain ⟨e__law_items, F__law_items⟩ := c.def_ 18 (d := t__law_items) rfl
  obtain ⟨e__law_word, F__law_word⟩ := c.def_ 19 (d := t__law_word) rfl
  obtain ⟨e__law_items_for, F__law_items_for⟩ := c.def_ 20 (d := t__law_items_for) rfl
  obtain ⟨e__law_kept, F__law_kept⟩ := c.def_ 21 (d := t__law_kept) rfl
  obtain ⟨e__law_rising, F__law_rising⟩ := c.def_ 22 (d := t__law_rising) rfl
  obtain ⟨e__law_single, F__law_single⟩ := c.def_ 23 (d := t__law_single) rfl
  obtain ⟨e__law_after, F__law_after⟩ := c.def_ 24 (d := t__law_after) rfl
  obtain ⟨e__law_act, F__law_act⟩ := c.def_ 25 (d := t__law_act) rfl
  obtain ⟨e__law_stuff, F__law_stuff⟩ := c.def_ 26 (d := t__law_stuff) rfl
  obtain ⟨e__law_trials_of, F__law_trials_of⟩ := c.def_ 27 (d := t__law_trials_of) rfl
  obtain ⟨e__law_random_meaning, F__law_random_meaning⟩ := c.def_ 28 (d := t__law_random_meaning) rfl
  obtain ⟨e_law, F_law⟩ := c.def_ 29 (d := t_law) rfl
  have h_is_sequence := He.glo_ok X G (c.fact 0 (f := .glo "is_sequence") rfl)
  have h_frozen := He.glo_ok X G (c.fact 1 (f := .glo "frozen") rfl)
  have h_is_letter := He.glo_ok X G (c.fact 2 (f := .glo "is_letter") rfl)
  have h_has_signs := He.glo_ok X G (c.fact 3 (f := .glo "has_signs") rfl)
  have h_is_item_word := He.glo_ok X G (c.fact 4 (f := .glo "is_item_word") rfl)
  have h_are_items := He.glo_ok X G (c.fact 5 (f := .glo "are_items") rfl)
  have h_is_meaning_row := He.glo_ok X G (c.fact 6 (f := .glo "is_meaning_row") rfl)
  have h_left_of := He.glo_ok X G (c.fact 7 (f := .glo "left_of") rfl)
  have h_value_behind := He.glo_ok X G (c.fact 8 (f := .glo "value_behind") rfl)
  have h_acted := He.glo_ok X G (c.fact 9 (f := .glo "acted") rfl)
  have h_is_meaning := He.glo_ok X G (c.fact 10 (f := .glo "is_meaning") rfl)
  have h_act := He.glo_ok X G (c.fact 11 (f := .glo "act") rfl)
  have h__law_so := He.glo_ok X G (c.fact 12 (f := .glo "_law_so") rfl)
  have h__law_numbers := He.glo_ok X G (c.fact 13 (f := .glo "_law_numbers") rfl)
  have h__law_draw := He.glo_ok X G (c.fact 14 (f := .glo "_law_draw") rfl)
  have h__law_take := He.glo_ok X G (c.fact 15 (f := .glo "_law_take") rfl)
  have h__law_letters := He.glo_ok X G (c.fact 16 (f := .glo "_law_letters") rfl)
  have h__law_item := He.glo_ok X G (c.fact 17 (f := .glo "_law_item") rfl)
  have h__law_items := He.glo_ok X G (c.fact 18 (f := .glo "_law_items") rfl)
  have h__law_word := He.glo_ok X G (c.fact 19 (f := .glo "_law_word") rfl)
  have h__law_items_for := He.glo_ok X G (c.fact 20 (f := .glo "_law_items_for") rfl)
  have h__law_kept := He.glo_ok X G (c.fact 21 (f := .glo "_law_kept") rfl)
  have h__law_rising := He.glo_ok X G (c.fact 22 (f := .glo "_law_rising") rfl)
  have h__law_single := He.glo_ok X G (c.fact 23 (f := .glo "_law_single") rfl)
  have h__law_after := He.glo_ok X G (c.fact 24 (f := .glo "_law_after") rfl)
  have h__law_act := He.glo_ok X G (c.fact 25 (f := .glo "_law_act") rfl)
  have h__law_stuff := He.glo_ok X G (c.fact 26 (f := .glo "_law_stuff") rfl)
  have h__law_trials_of := He.glo_ok X G (c.fact 27 (f := .glo "_law_trials_of") rfl)
  have h__law_random_meaning := He.glo_ok X G (c.fact 28 (f := .glo "_law_random_meaning") rfl)
  have h_law := He.glo_ok X G (c.fact 29 (f := .glo "law") rfl)
  have b_isinstance : mg "isinstance" = none := He.free_ok X G (c.fact 30 (f := .free "isinstance") rfl)
  have b_list : mg "list" = none := He.free_ok X G (c.fact 31 (f := .free "list") rfl)
  have b_tuple : mg "tuple" = none := He.free_ok X G (c.fact 32 (f := .free "tuple") rfl)
  have b_str : mg "str" = none := He.free_ok X G (c.fact 33 (f := .free "str") rfl)
  have b_len : mg "len" = none := He.free_ok X G (c.fact 34 (f := .free "len") rfl)
  have b_all : mg "all" = none := He.free_ok X G (c.fact 35 (f := .free "all") rfl)
  have b_bool : mg "bool" = none := He.free_ok X G (c.fact 36 (f := .free "bool") rfl)
  have b_range : mg "range" = none := He.free_ok X G (c.fact 37 (f := .free "range") rfl)
  have b_int : mg "int" = none := He.free_ok X G (c.fact 38 (f := .free "int") rfl)
  have b_sorted : mg "sorted" = none := He.free_ok X G (c.fact 39 (f := .free "sorted") rfl)
  have b_sum : mg "sum" = none := He.free_ok X G (c.fact 40 (f := .free "sum") rfl)
  have g_MOST_SIGNS : Gc K mg "MOST_SIGNS" (PyData.int 40) := gcB_ok X G (c0.cst 0 rfl)
  have e := hfa.symm.trans h_law
  cases e
  have b := FunD.bindsA (ps := ["script"]) F_law fun _ _ _ _ _ _ us hl => match us, hl with | [_], _ => rfl
  refine ⟨e_law, fun s v => b s [v] rfl, fun base _ _ => ?_⟩
  have c_is_sequence := d_is_sequence (P := P) (w := w) (base := base) b_isinstance b_list b_tuple F_is_sequence h_is_sequence
  have c_frozen := d_frozen (P := P) (w := w) (base := base) b_tuple c_is_sequence F_frozen h_frozen
  have c_is_letter := d_is_letter (P := P) (w := w) (base := base)  F_is_letter h_is_letter
  have c_has_signs := d_has_signs (P := P) (w := w) (base := base) b_isinstance b_str b_len b_all g_MOST_SIGNS c_is_letter F_has_signs h_has_signs
  have c_is_item_word := d_is_item_word (P := P) (w := w) (base := base) c_has_signs F_is_item_word h_is_item_word
  have c_are_items := d_are_items (P := P) (w := w) (base := base) b_all c_is_sequence c_is_item_word F_are_items h_are_items
  have c_is_meaning_row := d_is_meaning_row (P := P) (w := w) (base := base) b_len b_isinstance b_bool b_str b_all b_range c_is_sequence c_are_items F_is_meaning_row h_is_meaning_row
  have c_left_of := d_left_of (P := P) (w := w) (base := base) b_tuple F_left_of h_left_of
  have c_value_behind := d_value_behind (P := P) (w := w) (base := base) c_left_of F_value_behind h_value_behind
  have c_acted := d_acted (P := P) (w := w) (base := base) c_value_behind F_acted h_acted
  have c_is_meaning := d_is_meaning (P := P) (w := w) (base := base) c_is_meaning_row F_is_meaning h_is_meaning
  have c_act := d_act (P := P) (w := w) (base := base) b_isinstance b_bool c_is_meaning c_are_items c_acted c_frozen F_act h_act
  have c__law_so := d__law_so (P := P) (w := w) (base := base) b_isinstance b_tuple b_len b_range b_bool b_int b_str F__law_so h__law_so
  have c__law_numbers := d__law_numbers (P := P) (w := w) (base := base) b_range b_int b_len F__law_numbers h__law_numbers
  have c__law_draw := d__law_draw (P := P) (w := w) (base := base) b_len b_int F__law_draw h__law_draw
  have c__law_take := d__law_take (P := P) (w := w) (base := base) c__law_draw F__law_take h__law_take
  have c__law_letters := d__law_letters (P := P) (w := w) (base := base) b_range b_len c__law_take F__law_letters h__law_letters
  have c__law_item := d__law_item (P := P) (w := w) (base := base) b_len c__law_take c__law_letters F__law_item h__law_item
  have c__law_items := d__law_items (P := P) (w := w) (base := base) b_tuple b_range c__law_take c__law_item F__law_items h__law_items
  have c__law_word := d__law_word (P := P) (w := w) (base := base) c__law_take F__law_word h__law_word
  have c__law_items_for := d__law_items_for (P := P) (w := w) (base := base) c__law_items F__law_items_for h__law_items_for
  have c__law_kept := d__law_kept (P := P) (w := w) (base := base) b_tuple F__law_kept h__law_kept
  have c__law_rising := d__law_rising (P := P) (w := w) (base := base) b_sorted b_tuple F__law_rising h__law_rising
  have c__law_single := d__law_single (P := P) (w := w) (base := base) c__law_rising F__law_single h__law_single
  have c__law_after := d__law_after (P := P) (w := w) (base := base) b_len c__law_kept c__law_rising F__law_after h__law_after
  have c__law_act := d__law_act (P := P) (w := w) (base := base) c__law_kept F__law_act h__law_act
  have c__law_stuff := d__law_stuff (P := P) (w := w) (base := base)  F__law_stuff h__law_stuff
  have c__law_trials_of := d__law_trials_of (P := P) (w := w) (base := base) b_sum b_list b_range b_len b_str c__law_rising c__law_stuff F__law_trials_of h__law_trials_of
  have c__law_random_meaning := d__law_random_meaning (P := P) (w := w) (base := base) b_range c__law_take c__law_word c__law_after c__law_single c__law_items_for F__law_random_meaning h__law_random_meaning
  exact d_law b_len c__law_numbers c__law_random_meaning c__law_take c__law_word c__law_after c__law_single c__law_items_for c__law_trials_of c_act c__law_so c__law_act F_law h_law
end DL
open PySem PySem.W PySem.Calls PyProof.Rows
set_option maxHeartbeats 0 in
theorem PySem.Challenge.cw_layeredwords_k13_whole_unlike_meanings_a_holds : PySem.Challenge.rw_layeredwords_k13_whole_unlike_meanings_a.Holds := by
  w_on; o_law
  refine HandSHeadRun.head_any (r := (OpenLaw.row PySem.Challenge.rw_layeredwords_k13_whole_unlike_meanings_a)) (q := view (OpenLaw.row PySem.Challenge.rw_layeredwords_k13_whole_unlike_meanings_a).prog [37]) (H := DL.hk) (ob := DL.ob) (M := 3000) (loose := DL.namesL) (d := HandSHeadRun.topDef (OpenLaw.row PySem.Challenge.rw_layeredwords_k13_whole_unlike_meanings_a).prog 37) (kwd := []) DL.ob_eq (by kernel_rfl) (fun s => by kernel_rfl) DL.run (by kernel_rfl) (by kernel_rfl) (by kernel_rfl) (by rfl) (by first | assumption | decide +kernel) (by decide +kernel) ⟨rfl, rfl, rfl, rfl, rfl, by decide +kernel⟩ ?hw ?hc
  case hw => w_witness2
  case hc =>
    refine DL.walk_ofC (l := PySem.Challenge.rw_layeredwords_k13_whole_unlike_meanings_a) (n := 63) (k := 16) (x := "script") (CX := fun w => L2.CX PySem.Challenge.rw_layeredwords_k13_whole_unlike_meanings_a.prog w) rfl (by decide) (by kernel_rfl) ⟨rfl, by decide, by decide⟩ ?F (fun w H s e s' z => DL.cx_false w H s e s' z)
    intro w mg fa h Y G hmg0
    obtain ⟨K, KX, c⟩ := Y
    have hmg : mg ("law" : PySem.Str) = some (.ref fa) := by
      have e : (HandSHeadRun.topDef (OpenLaw.row PySem.Challenge.rw_layeredwords_k13_whole_unlike_meanings_a).prog 37).name = ("law" : PySem.Str) := by kernel_rfl
      rw [← e]
      exact hmg0
    obtain ⟨fd, hb, hF⟩ := DL.factsL (P := (PySem.Challenge.rw_layeredwords_k13_whole_unlike_meanings_a).prog) (w := w) KX G hmg c
    exact ⟨K, fd, _, KX, hb, fun H a ns hl _ hS => DL.law_sp hS (DL.law_true ns hl), hF⟩

