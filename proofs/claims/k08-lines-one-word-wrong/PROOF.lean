import PyProof.Rows.All
import Wide.All
import OpenK.AllK
import Wide.FinOn
import HandS.ForMost
import HandS.Exc
import HandS.TryOnly
import HandS.ExcOwn
import HandS.WordsExc
import HandS.NoneIn
import HandS.TupAny
import HandS.IsInst
import HandS.StrMore
import PyProof.Rows.SortShellAny
import HandS.Set
import HandS.SetFor
import HandS.SetTxt0
import HandS.Defaults
import HandS.Head0
import HandS.Head1
import HandS.Head2
import HandS.HeadEnd
import HandS.HeadHook1
import HandS.HeadHook2
import KE.KExcInit
import HandS.ExcInit
import HandS.ExcField
import HandS.TryMany
import HandS.ExcIs
import PyProof.MeetsStr3
import PyProof.Rows.StrNews2
import KE.KxPart
import PyProof.StrLawsChain
import PyProof.StrLawsLast
import PyProof.StrLawsIn
import PyProof.SumAny
import PyProof.Walks
import PyProof.Rows.SeqMore
import PyProof.SeqRoads
import HandS.HeadHook3
import KE.DatumOrd
import HandS.SortKw
import KE.GoesMore
import PyProof.EnumMake
import PyProof.Draws
import HandS.DictComp
import KE.GoesZip
import HandS.Zip
import HandS.SetKeys
import HandS.More
import HandS.Replace
import Lean
import PySem.Challenge.RW_layeredwords_k08_lines_with_one_word_mad
set_option Elab.async false
set_option linter.all false
set_option maxRecDepth 100000
set_option maxHeartbeats 2000000
namespace DL
open PySem L2
/-! ### data in the heap -/
mutual
def Rep (K : PySem.W.Frag) (H : Hp) (v : V) : PyData → Prop
  | .none => v = .non
  | .bool b => v = .bl b
  | .int i => v = .int i
  | .str x => v = .str x
  | .list l => ∃ a vs, v = .ref a ∧ SqL K H a vs ∧ Reps K H vs l
  | .tuple l => ∃ a vs, v = .ref a ∧ SqT K H a vs ∧ Reps K H vs l
  | .dict kvs => ∃ a ks, v = .ref a ∧ H a = some (.dK ks) ∧ RepK K H ks kvs
def Reps (K : PySem.W.Frag) (H : Hp) (vs : List V) : List PyData → Prop
  | [] => vs = []
  | d :: ds => ∃ v r, vs = v :: r ∧ Rep K H v d ∧ Reps K H r ds
def RepK (K : PySem.W.Frag) (H : Hp) (ks : List (Key × V)) : List (PyData × PyData) → Prop
  | [] => ks = []
  | kd :: ds => ∃ k v r, ks = (k, v) :: r ∧ RepP K H k v kd ∧ RepK K H r ds
def RepP (K : PySem.W.Frag) (H : Hp) (k : Key) (v : V) : PyData × PyData → Prop
  | (a, b) => Rep K H (kV k) a ∧ Rep K H v b
end
section
variable {K : PySem.W.Frag} {H H' : Hp}
theorem rd_mono (e : Same H H') {a : Addr} {u : HO} (h : Rd H a u) : Rd H' a u := by
  rcases h with h | ⟨o, h⟩
  · exact .inl (e a _ h)
  · exact .inr ⟨o, e a _ h⟩
theorem sql_mono (e : Same H H') {a : Addr} {vs : List V} (h : SqL K H a vs) : SqL K H' a vs := by
  rcases h with h | h
  · exact .inl (rd_mono e h)
  · exact .inr h
theorem sqt_mono (e : Same H H') {a : Addr} {vs : List V} (h : SqT K H a vs) : SqT K H' a vs := by
  rcases h with h | h
  · exact .inl (rd_mono e h)
  · exact .inr h
mutual
theorem Rep.mono (e : Same H H') : ∀ (d : PyData) (v : V), Rep K H v d → Rep K H' v d
  | .none, _, h => h
  | .bool _, _, h => h
  | .int _, _, h => h
  | .str _, _, h => h
  | .list l, _, ⟨a, vs, e1, h1, h2⟩ => ⟨a, vs, e1, sql_mono e h1, Reps.mono e l vs h2⟩
  | .tuple l, _, ⟨a, vs, e1, h1, h2⟩ => ⟨a, vs, e1, sqt_mono e h1, Reps.mono e l vs h2⟩
  | .dict kvs, _, ⟨a, ks, e1, h1, h2⟩ => ⟨a, ks, e1, e a _ h1, RepK.mono e kvs ks h2⟩
theorem Reps.mono (e : Same H H') : ∀ (l : List PyData) (vs : List V), Reps K H vs l → Reps K H' vs l
  | [], _, h => h
  | d :: ds, _, ⟨v, r, e1, h1, h2⟩ => ⟨v, r, e1, Rep.mono e d v h1, Reps.mono e ds r h2⟩
theorem RepK.mono (e : Same H H') : ∀ (l : List (PyData × PyData)) (ks : List (Key × V)), RepK K H ks l → RepK K H' ks l
  | [], _, h => h
  | kd :: ds, _, ⟨k, v, r, e1, h1, h2⟩ => ⟨k, v, r, e1, RepP.mono e kd k v h1, RepK.mono e ds r h2⟩
theorem RepP.mono (e : Same H H') : ∀ (kd : PyData × PyData) (k : Key) (v : V), RepP K H k v kd → RepP K H' k v kd
  | (a, b), _, _, ⟨h1, h2⟩ => ⟨Rep.mono e a _ h1, Rep.mono e b _ h2⟩
end
theorem Reps.len : ∀ {l : List PyData} {vs : List V}, Reps K H vs l → vs.length = l.length
  | [], _, h => by rw [show _ = [] from h]; rfl
  | d :: ds, _, ⟨v, r, e1, _, h2⟩ => by rw [e1, List.length_cons, List.length_cons, Reps.len h2]
theorem Reps.get : ∀ {l : List PyData} {vs : List V} {i : Nat} {d : PyData}, Reps K H vs l → l[i]? = some d → ∃ v, vs[i]? = some v ∧ Rep K H v d
  | [], _, _, _, _, e => by simp at e
  | d :: ds, _, 0, _, ⟨v, r, e1, h1, h2⟩, e => by
    simp at e; subst e
    exact ⟨v, by rw [e1]; rfl, h1⟩
  | d :: ds, _, i + 1, _, ⟨v, r, e1, h1, h2⟩, e => by
    obtain ⟨w, q1, q2⟩ := Reps.get (i := i) h2 (by simpa using e)
    exact ⟨w, by rw [e1]; simpa using q1, q2⟩
theorem Reps.getV : ∀ {l : List PyData} {vs : List V} {i : Nat} {v : V}, Reps K H vs l → vs[i]? = some v → ∃ d, l[i]? = some d ∧ Rep K H v d
  | [], vs, i, v, h, e => by rw [show vs = [] from h] at e; simp at e
  | d :: ds, _, 0, v, ⟨w, r, e1, h1, h2⟩, e => by
    subst e1; simp at e; subst e
    exact ⟨d, rfl, h1⟩
  | d :: ds, _, i + 1, v, ⟨w, r, e1, h1, h2⟩, e => by
    subst e1
    obtain ⟨x, q1, q2⟩ := Reps.getV (i := i) h2 (by simpa using e)
    exact ⟨x, by simpa using q1, q2⟩
theorem Reps.append : ∀ {l m : List PyData} {vs ws : List V}, Reps K H vs l → Reps K H ws m → Reps K H (vs ++ ws) (l ++ m)
  | [], _, _, _, h, h' => by rw [show _ = [] from h]; exact h'
  | d :: ds, _, _, _, ⟨v, r, e1, h1, h2⟩, h' => ⟨v, r ++ _, by rw [e1]; rfl, h1, Reps.append h2 h'⟩
theorem Reps.one {v : V} {d : PyData} (h : Rep K H v d) : Reps K H [v] [d] := ⟨v, [], rfl, h, rfl⟩
theorem Reps.take : ∀ {l : List PyData} {vs : List V} (n : Nat), Reps K H vs l → Reps K H (vs.take n) (l.take n)
  | _, _, 0, _ => by simp [Reps]
  | [], _, n + 1, h => by rw [show _ = [] from h]; exact rfl
  | d :: ds, _, n + 1, ⟨v, r, e1, h1, h2⟩ => ⟨v, r.take n, by rw [e1]; rfl, h1, Reps.take n h2⟩
theorem Reps.drop : ∀ {l : List PyData} {vs : List V} (n : Nat), Reps K H vs l → Reps K H (vs.drop n) (l.drop n)
  | _, _, 0, h => h
  | [], _, n + 1, h => by rw [show _ = [] from h]; exact rfl
  | d :: ds, _, n + 1, ⟨v, r, e1, h1, h2⟩ => by rw [e1]; exact Reps.drop n h2
theorem Reps.set : ∀ {l : List PyData} {vs : List V} (i : Nat) {v : V} {d : PyData}, Rep K H v d → Reps K H vs l → Reps K H (vs.set i v) (l.set i d)
  | [], _, _, _, _, _, h => by rw [show _ = [] from h]; exact rfl
  | x :: ds, _, 0, v, d, hd, ⟨w, r, e1, h1, h2⟩ => ⟨v, r, by rw [e1]; rfl, hd, h2⟩
  | x :: ds, _, i + 1, v, d, hd, ⟨w, r, e1, h1, h2⟩ => ⟨w, r.set i v, by rw [e1]; rfl, h1, Reps.set i hd h2⟩
theorem Reps.dropLast {l : List PyData} {vs : List V} (h : Reps K H vs l) : Reps K H vs.dropLast l.dropLast := by
  rw [List.dropLast_eq_take, List.dropLast_eq_take, h.len]
  exact h.take _
end

/-! ### the abstract state -/
/-- a slot: nothing known; a value that stands still; a list of our own, written by nobody else; a caller's list that may be written here -/
inductive Sl where
  | no | v (d : PyData) | own (l : List PyData) | cell (l : List PyData)
abbrev G := List Sl
def Sl.mu : Sl → Option (List PyData)
  | .own l => some l
  | .cell l => some l
  | _ => none
def Sl.put (s : Sl) (l : List PyData) : Sl := match s with
  | .own _ => .own l
  | .cell _ => .cell l
  | s => s
structure Bs where
  H0 : Hp
  F0 : Hp
  pin : Nat → Option Addr
def keepB (B : Bs) (H : Hp) : Prop := ∀ a o, B.H0 a = some o → (∀ i, B.pin i ≠ some a) → H a = some o
structure EnvR (K : PySem.W.Frag) (B : Bs) (F H : Hp) (σ : St) (Γ : G) : Prop where
  ex : Same F H
  len : σ.length = Γ.length
  val : ∀ (i : Nat) (d : PyData), Γ[i]? = some (Sl.v d) → ∃ v : V, σ[i]? = some (some v) ∧ Rep K F v d
  mu : ∀ (i : Nat) (s : Sl) (l : List PyData), Γ[i]? = some s → s.mu = some l → ∃ (p : Addr) (vs : List V), σ[i]? = some (some (V.ref p)) ∧ F p = none ∧ H p = some (.lst vs) ∧ Reps K F vs l ∧ (s = Sl.own l → B.H0 p = none)
  pin : ∀ (i : Nat) (p : Addr), B.pin i = some p → ∃ l : List PyData, Γ[i]? = some (Sl.cell l) ∧ σ[i]? = some (some (V.ref p))
  cel : ∀ (i : Nat) (l : List PyData), Γ[i]? = some (Sl.cell l) → ∃ p, B.pin i = some p
  apart : ∀ (i j : Nat) (s t : Sl) (l m : List PyData) (p : Addr), Γ[i]? = some s → Γ[j]? = some t → s.mu = some l → t.mu = some m → σ[i]? = some (some (V.ref p)) → σ[j]? = some (some (V.ref p)) → i = j
  keep : keepB B H
  frz : ∀ (a : Addr) (o : HO), B.H0 a = some o → F a = B.F0 a
/-- what an expression gives: data; a new list of nobody else's; the list in a slot -/
inductive R where
  | d (x : PyData) | o (l : List PyData) | b (i : Nat)
def R.fz : R → R
  | .o l => .d (.list l)
  | r => r
def rd (Γ : G) : R → Option PyData
  | .d x => some x
  | .o l => some (.list l)
  | .b i => match Γ[i]? with
    | some s => s.mu.map .list
    | none => none
def RR (K : PySem.W.Frag) (B : Bs) (F H : Hp) (σ : St) (Γ : G) (v : V) : R → Prop
  | .d x => Rep K F v x
  | .o l => ∃ p vs, v = .ref p ∧ F p = none ∧ H p = some (.lst vs) ∧ Reps K F vs l ∧ B.H0 p = none ∧ ∀ (i : Nat) (s : Sl) (m : List PyData), Γ[i]? = some s → s.mu = some m → σ[i]? ≠ some (some (V.ref p))
  | .b i => σ[i]? = some (some v) ∧ ∃ (s : Sl) (l : List PyData), Γ[i]? = some s ∧ s.mu = some l
/-- a value as it reads now: a list's own object may be one that is still written -/
def Sh (K : PySem.W.Frag) (F H : Hp) (v : V) : PyData → Prop
  | .list l => ∃ a vs, v = .ref a ∧ SqL K H a vs ∧ Reps K F vs l
  | x => Rep K F v x
def Shs (K : PySem.W.Frag) (F H : Hp) (vs : List V) : List PyData → Prop
  | [] => vs = []
  | d :: ds => ∃ v r, vs = v :: r ∧ Sh K F H v d ∧ Shs K F H r ds
section
variable {K : PySem.W.Frag} {B : Bs} {F F' H H' : Hp} {σ : St} {Γ : G} {v : V}
theorem Sh.of (e : Same F H) : ∀ {d : PyData}, Rep K F v d → Sh K F H v d
  | .list l, ⟨a, vs, e1, h1, h2⟩ => ⟨a, vs, e1, sql_mono e h1, h2⟩
  | .none, h => h
  | .bool _, h => h
  | .int _, h => h
  | .str _, h => h
  | .tuple _, h => h
  | .dict _, h => h
theorem Sh.rep (e : Same F H) : ∀ {d : PyData}, Sh K F H v d → Rep K H v d
  | .list l, ⟨a, vs, e1, h1, h2⟩ => ⟨a, vs, e1, h1, Reps.mono e _ _ h2⟩
  | .none, h => Rep.mono e _ _ h
  | .bool _, h => Rep.mono e _ _ h
  | .int _, h => Rep.mono e _ _ h
  | .str _, h => Rep.mono e _ _ h
  | .tuple _, h => Rep.mono e _ _ h
  | .dict _, h => Rep.mono e _ _ h
theorem Sh.list {l : List PyData} (h : Sh K F H v (.list l)) : ∃ a vs, v = .ref a ∧ SqL K H a vs ∧ Reps K F vs l := h
theorem EnvR.sh (E : EnvR K B F H σ Γ) {r : R} {x : PyData} (h : RR K B F H σ Γ v r) (hr : rd Γ r = some x) : Sh K F H v x := by
  cases r with
  | d y => cases hr; exact Sh.of E.ex h
  | o l =>
    cases hr
    obtain ⟨p, vs, e, _, h1, h2, _⟩ := h
    exact ⟨p, vs, e, SqL.of h1, h2⟩
  | b i =>
    obtain ⟨h1, s, l, h2, h3⟩ := h
    have hr' : s.mu.map PyData.list = some x := by
      have q : (match Γ[i]? with
        | some s => s.mu.map PyData.list
        | none => none) = some x := hr
      rw [h2] at q
      exact q
    rw [h3] at hr'
    cases hr'
    obtain ⟨p, vs, q1, _, q3, q4, _⟩ := E.mu i s l h2 h3
    rw [h1] at q1
    cases q1
    exact ⟨p, vs, rfl, SqL.of q3, q4⟩
/-- the heap grows, more stands still, what is ours is not touched -/
theorem EnvR.grow (E : EnvR K B F H σ Γ) (e1 : Same H H') (e2 : Same F F') (e3 : Same F' H') (hn : ∀ (i : Nat) (s : Sl) (l : List PyData) (q : Addr), Γ[i]? = some s → s.mu = some l → σ[i]? = some (some (V.ref q)) → F' q = none) (hf : ∀ (a : Addr) (o : HO), B.H0 a = some o → F' a = F a) : EnvR K B F' H' σ Γ where
  ex := e3
  len := E.len
  val := fun i d h => by
    obtain ⟨v, h1, h2⟩ := E.val i d h
    exact ⟨v, h1, Rep.mono e2 _ _ h2⟩
  mu := fun i s l h h' => by
    obtain ⟨p, vs, h1, h2, h3, h4, h5⟩ := E.mu i s l h h'
    exact ⟨p, vs, h1, hn i s l p h h' h1, e1 p _ h3, Reps.mono e2 _ _ h4, h5⟩
  pin := E.pin
  cel := E.cel
  apart := E.apart
  keep := fun a o h hp => e1 a o (E.keep a o h hp)
  frz := fun a o h => (hf a o h).trans (E.frz a o h)
theorem EnvR.muH (E : EnvR K B F H σ Γ) {i : Nat} {s : Sl} {l : List PyData} {q : Addr} (h : Γ[i]? = some s) (h' : s.mu = some l) (hq : σ[i]? = some (some (V.ref q))) : F q = none ∧ ∃ vs, H q = some (.lst vs) ∧ Reps K F vs l := by
  obtain ⟨p, vs, h1, h2, h3, h4, h5⟩ := E.mu i s l h h'
  rw [h1] at hq
  cases hq
  exact ⟨h2, vs, h3, h4⟩
theorem none_back (e : Same F H) {p : Addr} (h : H p = none) : F p = none := by
  cases q : F p with
  | none => rfl
  | some o => rw [e p o q] at h; cases h
theorem same_upd {p : Addr} {o : HO} (h : H p = none) : Same H (upd H p o) := fun a u e => by
  rw [upd_ne (ne_of_none e h)]
  exact e
theorem same_upd2 {p : Addr} {o : HO} (e : Same F H) (h : H p = none) : Same (upd F p o) (upd H p o) := fun a u q => by
  by_cases ha : a = p
  · subst ha
    rw [upd_same] at q ⊢
    exact q
  · rw [upd_ne ha] at q ⊢
    exact e a u q
theorem EnvR.old (E : EnvR K B F H σ Γ) {p : Addr} (h : H p = none) : B.H0 p = none := by
  cases q : B.H0 p with
  | none => rfl
  | some o =>
    by_cases hp : ∃ i, B.pin i = some p
    · obtain ⟨i, hi⟩ := hp
      obtain ⟨l', h1, h2⟩ := E.pin i p hi
      obtain ⟨_, ws, h3, _⟩ := E.muH h1 rfl h2
      rw [h] at h3; cases h3
    · have := E.keep p o q fun i hi => hp ⟨i, hi⟩
      rw [h] at this; cases this
/-- a new object that stands still -/
theorem EnvR.lay (E : EnvR K B F H σ Γ) {p : Addr} {o : HO} (h : H p = none) : EnvR K B (upd F p o) (upd H p o) σ Γ :=
  E.grow (same_upd h) (same_upd (none_back E.ex h)) (same_upd2 E.ex h) (fun i s l q h1 h2 h3 => by
    obtain ⟨q1, vs, q2, _⟩ := E.muH h1 h2 h3
    rw [upd_ne (ne_of_none q2 h)]
    exact q1) fun a o q => upd_ne (ne_of_none q (E.old h))
/-- a new object that may be written yet -/
theorem EnvR.layH (E : EnvR K B F H σ Γ) {p : Addr} {o : HO} (h : H p = none) : EnvR K B F (upd H p o) σ Γ :=
  E.grow (same_upd h) (fun _ _ q => q) (fun a u q => (same_upd h) a u (E.ex a u q)) (fun i s l q h1 h2 h3 => (E.muH h1 h2 h3).1) fun _ _ _ => rfl
theorem Same.id (F : Hp) : Same F F := fun _ _ q => q
theorem EnvR.fz (E : EnvR K B F H σ Γ) {r : R} (h : RR K B F H σ Γ v r) : ∃ F', Same F F' ∧ EnvR K B F' H σ Γ ∧ RR K B F' H σ Γ v r.fz := by
  cases r with
  | d x => exact ⟨F, Same.id F, E, h⟩
  | b i => exact ⟨F, Same.id F, E, h⟩
  | o l =>
    obtain ⟨p, vs, e, h1, h2, h3, h4, h5⟩ := h
    have sF : Same F (upd F p (.lst vs)) := same_upd h1
    refine ⟨upd F p (.lst vs), sF, E.grow (Same.id H) sF (fun a u q => ?_) (fun i s m q q1 q2 q3 => ?_) (fun a o q => upd_ne (ne_of_none q h4)), p, vs, e, SqL.of upd_same, Reps.mono sF _ _ h3⟩
    · by_cases ha : a = p
      · subst ha
        rw [upd_same] at q
        rw [h2, q]
      · rw [upd_ne ha] at q
        exact E.ex a u q
    · have : q ≠ p := fun z => h5 i s m q1 q2 (by rw [q3, z])
      rw [upd_ne this]
      exact (E.muH q1 q2 q3).1
theorem rd_fz (r : R) : rd Γ r.fz = rd Γ r := by cases r <;> rfl
end
/-- an error: its class's name, its fields -/
structure XN where
  tag : Str
  fs : List (Str × PyData)
def XR (K : PySem.W.Frag) (mg : Str → Option Value) (F H : Hp) (x : XN) (cls : Value) (dd : Option Addr) : Prop :=
  mg x.tag = some cls ∧ ∃ d kvs, dd = some d ∧ H d = some (.xd kvs) ∧ kvs.map (·.1) = x.fs.map (·.1) ∧ Reps K F (kvs.map (·.2)) (x.fs.map (·.2))
abbrev XQ := XN → G → Prop
abbrev WE := G → (R → G → Prop) → XQ → Prop
def XOk (K : PySem.W.Frag) (mg : Str → Option Value) (B : Bs) (F : Hp) (W : WX) (σ : St) (X : XQ) : Prop :=
  ∀ x cls dd H' F' Γ', X x Γ' → Same F F' → EnvR K B F' H' σ Γ' → XR K mg F' H' x cls dd → W cls dd σ H'
theorem XOk.mono {K : PySem.W.Frag} {mg : Str → Option Value} {B : Bs} {F F' : Hp} {W : WX} {σ : St} {X : XQ} (h : XOk K mg B F W σ X) (e : Same F F') : XOk K mg B F' W σ X :=
  fun x cls dd H' F'' Γ' hx s => h x cls dd H' F'' Γ' hx (e.trans s)
def liftE (K : PySem.W.Frag) (mg : Str → Option Value) (W : WX) (w : WE) : TE := fun σ H Kn => ∃ B F Γ Q X, EnvR K B F H σ Γ ∧ w Γ Q X ∧
  (∀ v r H' F' Γ', Same F F' → EnvR K B F' H' σ Γ' → RR K B F' H' σ Γ' v r → Q r Γ' → Kn v H') ∧ XOk K mg B F W σ X
abbrev WT := G → (Bool → G → Prop) → XQ → Prop
def liftT (K : PySem.W.Frag) (mg : Str → Option Value) (W : WX) (w : WT) : TT := fun σ H Kn => ∃ B F Γ Q X, EnvR K B F H σ Γ ∧ w Γ Q X ∧
  (∀ b H' F' Γ', Same F F' → EnvR K B F' H' σ Γ' → Q b Γ' → Kn b H') ∧ XOk K mg B F W σ X
abbrev WA := G → (List R → G → Prop) → XQ → Prop
/-- results in a row: those that were new lists stand still now -/
def RRs (K : PySem.W.Frag) (B : Bs) (F H : Hp) (σ : St) (Γ : G) (vs : List V) : List R → Prop
  | [] => vs = []
  | r :: rs => ∃ v ws, vs = v :: ws ∧ (match r with | .d x => Rep K F v x | .o _ => False | .b i => σ[i]? = some (some v)) ∧ RRs K B F H σ Γ ws rs
def liftA (K : PySem.W.Frag) (mg : Str → Option Value) (W : WX) (w : WA) : TA := fun σ H Kn => ∃ B F Γ Q X, EnvR K B F H σ Γ ∧ w Γ Q X ∧
  (∀ vs rs H' F' Γ', Same F F' → EnvR K B F' H' σ Γ' → RRs K B F' H' σ Γ' vs rs → Q rs Γ' → Kn vs H') ∧ XOk K mg B F W σ X
structure DE (X : Cx) (W : WX) (e : Expr) (w : WE) : Prop where
  pe : PE X e (liftE X.K X.mg W w)
structure DT (X : Cx) (W : WX) (e : Expr) (w : WT) : Prop where
  pt : PT X e (liftT X.K X.mg W w)
structure DW (X : Cx) (W : WX) (e : Expr) (w : WT) : Prop where
  pw : PW X e (liftT X.K X.mg W w)
structure DA (X : Cx) (W : WX) (es : List Expr) (w : WA) : Prop where
  pa : PA X es (liftA X.K X.mg W w)
theorem _root_.L2.PE.imp {X : Cx} {e : Expr} {t t' : TE} (h : PE X e t) (k : ∀ σ H Q, t' σ H Q → t σ H Q) : PE X e t' := ⟨fun pins s σ H Q I q => h.run pins s σ H Q I (k σ H Q q)⟩
theorem _root_.L2.PT.imp {X : Cx} {e : Expr} {t t' : TT} (h : PT X e t) (k : ∀ σ H Q, t' σ H Q → t σ H Q) : PT X e t' := ⟨fun pins s σ H Q I q => h.run pins s σ H Q I (k σ H Q q)⟩
theorem _root_.L2.PW.imp {X : Cx} {e : Expr} {t t' : TT} (h : PW X e t) (k : ∀ σ H Q, t' σ H Q → t σ H Q) : PW X e t' := ⟨fun wh pins s σ H Q I q => h.run wh pins s σ H Q I (k σ H Q q)⟩
theorem _root_.L2.PA.imp {X : Cx} {es : List Expr} {t t' : TA} (h : PA X es t) (k : ∀ σ H Q, t' σ H Q → t σ H Q) : PA X es t' := ⟨fun pos pins s σ H Q I q => h.run pos pins s σ H Q I (k σ H Q q)⟩
section
variable {K : PySem.W.Frag} {B : Bs} {F F' H H' : Hp} {σ : St} {Γ Γ' : G} {v : V}
theorem RRs.mono (e : Same F F') : ∀ {rs : List R} {vs : List V}, RRs K B F H σ Γ vs rs → RRs K B F' H' σ Γ' vs rs
  | [], _, h => h
  | .d x :: rs, _, ⟨v, ws, e1, h1, h2⟩ => ⟨v, ws, e1, Rep.mono e _ _ h1, RRs.mono e h2⟩
  | .b i :: rs, _, ⟨v, ws, e1, h1, h2⟩ => ⟨v, ws, e1, h1, RRs.mono e h2⟩
  | .o _ :: rs, _, ⟨v, ws, e1, h1, h2⟩ => h1.elim
end
end DL

namespace DL
open PySem L2
section
variable {K : PySem.W.Frag} {B : Bs} {F F' H H' F1 H1 F2 H2 : Hp} {σ : St} {Γ Γ' Γ1 Γ2 : G} {v : V}
theorem get_set_self {i : Nat} {s : Sl} (h : i < Γ.length) : (Γ.set i s)[i]? = some s := by simp [h]
theorem get_set_ne {i j : Nat} {s : Sl} (h : i ≠ j) : (Γ.set i s)[j]? = Γ[j]? := List.getElem?_set_ne h
theorem lt_of_get {i : Nat} {s : Sl} (h : Γ[i]? = some s) : i < Γ.length := (List.getElem?_eq_some_iff.mp h).1
theorem set_self_eq {i : Nat} {s t : Sl} (z : (Γ.set i t)[i]? = some s) : s = t := by
  by_cases hl : i < Γ.length
  · rw [get_set_self hl] at z; exact (Option.some.inj z).symm
  · rw [List.getElem?_eq_none (by simpa using hl)] at z; cases z
/-- a slot of ours that stands still from now on -/
theorem EnvR.still (E : EnvR K B F H σ Γ) {i : Nat} {l : List PyData} (h : Γ[i]? = some (Sl.own l)) : ∃ F' v, Same F F' ∧ EnvR K B F' H σ (Γ.set i (Sl.v (.list l))) ∧ σ[i]? = some (some v) ∧ Rep K F' v (.list l) := by
  obtain ⟨p, vs, h1, h2, h3, h4, h5⟩ := E.mu i _ l h rfl
  have hl := lt_of_get h
  have sF : Same F (upd F p (.lst vs)) := same_upd h2
  have rep : Rep K (upd F p (.lst vs)) (V.ref p) (.list l) := ⟨p, vs, rfl, SqL.of upd_same, Reps.mono sF _ _ h4⟩
  refine ⟨upd F p (.lst vs), V.ref p, sF, ⟨fun a u q => ?_, ?_, fun j d hj => ?_, fun j s m hj hm => ?_, fun j q hq => ?_, fun j m hj => ?_, fun j k s t m n q hj hk hm hn e1 e2 => ?_, E.keep, fun a o q => (upd_ne (ne_of_none q (h5 rfl))).trans (E.frz a o q)⟩, h1, rep⟩
  · by_cases ha : a = p
    · subst ha
      rw [upd_same] at q
      rw [h3, q]
    · rw [upd_ne ha] at q
      exact E.ex a u q
  · rw [List.length_set]; exact E.len
  · by_cases hij : i = j
    · subst hij
      rw [get_set_self hl] at hj
      cases hj
      exact ⟨_, h1, rep⟩
    · rw [get_set_ne hij] at hj
      obtain ⟨w, q1, q2⟩ := E.val j d hj
      exact ⟨w, q1, Rep.mono sF _ _ q2⟩
  · by_cases hij : i = j
    · subst hij
      rw [get_set_self hl] at hj
      cases hj
      cases hm
    · rw [get_set_ne hij] at hj
      obtain ⟨q, ws, q1, q2, q3, q4, q5⟩ := E.mu j s m hj hm
      have hqp : q ≠ p := fun z => by
        subst z
        exact hij (E.apart i j _ s l m q h hj rfl hm h1 q1)
      exact ⟨q, ws, q1, by rw [upd_ne hqp]; exact q2, q3, Reps.mono sF _ _ q4, q5⟩
  · obtain ⟨m, q1, q2⟩ := E.pin j q hq
    have hij : i ≠ j := fun z => by subst z; rw [h] at q1; cases q1
    exact ⟨m, by rw [get_set_ne hij]; exact q1, q2⟩
  · by_cases hij : i = j
    · subst hij
      rw [get_set_self hl] at hj
      cases hj
    · rw [get_set_ne hij] at hj
      exact E.cel j m hj
  · have nj : i ≠ j := fun z => by subst z; rw [get_set_self hl] at hj; cases hj; cases hm
    have nk : i ≠ k := fun z => by subst z; rw [get_set_self hl] at hk; cases hk; cases hn
    rw [get_set_ne nj] at hj
    rw [get_set_ne nk] at hk
    exact E.apart j k s t m n q hj hk hm hn e1 e2
/-- a slot that is forgotten -/
theorem EnvR.forget (E : EnvR K B F H σ Γ) {i : Nat} (h : ∀ l, Γ[i]? ≠ some (Sl.cell l)) : EnvR K B F H σ (Γ.set i Sl.no) := by
  refine ⟨E.ex, by rw [List.length_set]; exact E.len, fun j d hj => ?_, fun j s m hj hm => ?_, fun j q hq => ?_, fun j m hj => ?_, fun j k s t m n q hj hk hm hn e1 e2 => ?_, E.keep, E.frz⟩
  · by_cases hij : i = j
    · subst hij; cases set_self_eq hj
    · rw [get_set_ne hij] at hj; exact E.val j d hj
  · by_cases hij : i = j
    · subst hij; cases set_self_eq hj; cases hm
    · rw [get_set_ne hij] at hj; exact E.mu j s m hj hm
  · obtain ⟨m, q1, q2⟩ := E.pin j q hq
    have hij : i ≠ j := fun z => by subst z; exact h m q1
    exact ⟨m, by rw [get_set_ne hij]; exact q1, q2⟩
  · by_cases hij : i = j
    · subst hij; cases set_self_eq hj
    · rw [get_set_ne hij] at hj; exact E.cel j m hj
  · have nj : i ≠ j := fun z => by subst z; cases set_self_eq hj; cases hm
    have nk : i ≠ k := fun z => by subst z; cases set_self_eq hk; cases hn
    rw [get_set_ne nj] at hj
    rw [get_set_ne nk] at hk
    exact E.apart j k s t m n q hj hk hm hn e1 e2
end
/-! ### names, constants -/
def wVar (i : Nat) : WE := fun Γ Q _ => match Γ[i]? with
  | some (.v d) => Q (.d d) Γ
  | some (.own l) => Q (.d (.list l)) (Γ.set i (.v (.list l)))
  | _ => False
/-- for an operand that is read at once -/
def wBor (i : Nat) : WE := fun Γ Q _ => match Γ[i]? with
  | some (.v d) => Q (.d d) Γ
  | some (.own _) => Q (.b i) Γ
  | some (.cell _) => Q (.b i) Γ
  | _ => False
/-- the last reading of a name -/
def wTake (i : Nat) : WE := fun Γ Q _ => match Γ[i]? with
  | some (.v d) => Q (.d d) Γ
  | some (.own l) => Q (.o l) (Γ.set i .no)
  | _ => False
def wC (d : PyData) : WE := fun Γ Q _ => Q (.d d) Γ
section
variable {X : Cx} {W : WX} {pos : Pos}
theorem de_of {e : Expr} {t : TE} {w : WE} (h : PE X e t) (k : ∀ σ H Q, liftE X.K X.mg W w σ H Q → t σ H Q) : DE X W e w := ⟨h.imp k⟩
theorem de_var {e : Expr} {i : Nat} (h : PE X e (tVar i)) : DE X W e (wVar i) := de_of h fun σ H Kn ⟨B, F, Γ, Q, Xq, E, hw, k, _⟩ => by
  unfold wVar at hw
  split at hw
  · rename_i d hd
    obtain ⟨v, h1, h2⟩ := E.val i d hd
    exact ⟨v, h1, k v (.d d) H F Γ (Same.id F) E h2 hw⟩
  · rename_i l hd
    obtain ⟨F', v, s, E', h1, h2⟩ := E.still hd
    exact ⟨v, h1, k v (.d (.list l)) H F' _ s E' h2 hw⟩
  · exact hw.elim
theorem de_bor {e : Expr} {i : Nat} (h : PE X e (tVar i)) : DE X W e (wBor i) := de_of h fun σ H Kn ⟨B, F, Γ, Q, Xq, E, hw, k, _⟩ => by
  unfold wBor at hw
  split at hw
  · rename_i d hd
    obtain ⟨v, h1, h2⟩ := E.val i d hd
    exact ⟨v, h1, k v (.d d) H F Γ (Same.id F) E h2 hw⟩
  · rename_i l hd
    obtain ⟨p, vs, h1, _⟩ := E.mu i _ l hd rfl
    exact ⟨_, h1, k _ (.b i) H F Γ (Same.id F) E ⟨h1, _, l, hd, rfl⟩ hw⟩
  · rename_i l hd
    obtain ⟨p, vs, h1, _⟩ := E.mu i _ l hd rfl
    exact ⟨_, h1, k _ (.b i) H F Γ (Same.id F) E ⟨h1, _, l, hd, rfl⟩ hw⟩
  · exact hw.elim
theorem de_take {e : Expr} {i : Nat} (h : PE X e (tVar i)) : DE X W e (wTake i) := de_of h fun σ H Kn ⟨B, F, Γ, Q, Xq, E, hw, k, _⟩ => by
  unfold wTake at hw
  split at hw
  · rename_i d hd
    obtain ⟨v, h1, h2⟩ := E.val i d hd
    exact ⟨v, h1, k v (.d d) H F Γ (Same.id F) E h2 hw⟩
  · rename_i l hd
    obtain ⟨p, vs, h1, h2, h3, h4, h5⟩ := E.mu i _ l hd rfl
    have E' : EnvR X.K B F H σ (Γ.set i Sl.no) := E.forget (i := i) fun m z => by rw [hd] at z; cases z
    refine ⟨_, h1, k _ (.o l) H F _ (Same.id F) E' ⟨p, vs, rfl, h2, h3, h4, h5 rfl, fun j s m hj hm z => ?_⟩ hw⟩
    have hij : i ≠ j := fun e => by subst e; rw [get_set_self (lt_of_get hd)] at hj; cases hj; cases hm
    rw [get_set_ne hij] at hj
    exact hij (E.apart i j _ s l m p hd hj rfl hm h1 z)
  · exact hw.elim
theorem de_c {e : Expr} {d : PyData} {v : V} (h : PE X e (tC v)) (r : ∀ H, Rep X.K H v d) : DE X W e (wC d) := de_of h fun σ H Kn ⟨B, F, Γ, Q, Xq, E, hw, k, _⟩ =>
  k v (.d d) H F Γ (Same.id F) E (r F) hw
theorem de_int {i j} : DE X W (.Constant (.int i) j pos) (wC (.int i)) := de_c pe_int fun _ => rfl
theorem de_bl {b j} : DE X W (.Constant (.bool b) j pos) (wC (.bool b)) := de_c pe_bl fun _ => rfl
theorem de_non {j} : DE X W (.Constant .none j pos) (wC .none) := de_c pe_non fun _ => rfl
theorem de_str {x j} : DE X W (.Constant (.str x) j pos) (wC (.str x)) := de_c pe_str fun _ => rfl
/-- a constant of the module -/
structure Gc (K : PySem.W.Frag) (mg : Str → Option Value) (x : Str) (d : PyData) : Prop where
  ex : ∃ v u, mg x = some u ∧ RelV v u ∧ ∀ H, Rep K H v d
theorem de_glob {x : Str} {d : PyData} (g : Gc X.K X.mg x d) (hg : Gl X x := by rfl) (hd : (x == ("__debug__" : Str)) = false := by decide) : DE X W (.Name x pos) (wC d) := by
  obtain ⟨v, u, h1, h2, h3⟩ := g.ex
  exact de_c (pe_glob hg h1 h2 hd) h3
end
/-! ### two operands -/
section
variable {K : PySem.W.Frag} {mg : Str → Option Value} {W : WX} {B : Bs} {F F' H H' F1 H1 F2 H2 : Hp} {σ : St} {Γ Γ' Γ1 Γ2 : G} {v : V}
def R.isO : R → Bool
  | .o _ => true
  | _ => false
theorem fz_isO (r : R) : r.fz.isO = false := by cases r <;> rfl
/-- a result that stood reads on -/
theorem keepR (E2 : EnvR K B F2 H2 σ Γ2) {r : R} {x : PyData} (h : RR K B F1 H1 σ Γ1 v r) (hno : r.isO = false) (s : Same F1 F2) (hr : rd Γ2 r = some x) : Sh K F2 H2 v x := by
  cases r with
  | d y => cases hr; exact Sh.of E2.ex (Rep.mono s _ _ h)
  | o l => cases hno
  | b i =>
    have hr' : rd Γ2 (.b i) = some x := hr
    unfold rd at hr
    have q : ∃ (t : Sl) (m : List PyData), Γ2[i]? = some t ∧ t.mu = some m := by
      cases e : Γ2[i]? with
      | none => simp [e] at hr
      | some t =>
        cases e2 : t.mu with
        | none => simp [e, e2] at hr
        | some m => exact ⟨t, m, rfl, e2⟩
    exact E2.sh (r := .b i) ⟨h.1, q⟩ hr'
abbrev FP := PyData → PyData → (R → Prop) → Prop
def P2 (K : PySem.W.Frag) (r : R2) (f : FP) : Prop := ∀ (B : Bs) (F H : Hp) (σ : St) (Γ : G) (u v : V) (x y : PyData) (Q : R → Prop) (Kn : VK),
  EnvR K B F H σ Γ → Sh K F H u x → Sh K F H v y → f x y Q → (∀ v r H' F', Same F F' → EnvR K B F' H' σ Γ → RR K B F' H' σ Γ v r → Q r → Kn v H') → r u v H Kn
def wBin (f : FP) (wa wb : WE) : WE := fun Γ Q X => wa Γ (fun ra Γ1 => wb Γ1 (fun rb Γ2 => match rd Γ2 ra, rd Γ2 rb with
  | some x, some y => f x y (fun r => Q r Γ2)
  | _, _ => False) X) X
theorem lift2 {r : R2} {f : FP} {wa wb : WE} {Kn : VK} (p : P2 K r f) (h : liftE K mg W (wBin f wa wb) σ H Kn) : liftE K mg W wa σ H fun x H1 => liftE K mg W wb σ H1 fun y H2 => r x y H2 Kn := by
  obtain ⟨B, F, Γ, Q, Xq, E, hw, k, kx⟩ := h
  refine ⟨B, F, Γ, _, Xq, E, hw, fun va ra Ha Fa Γa sa Ea hra hq => ?_, kx⟩
  obtain ⟨Fa', sa', Ea', hra'⟩ := Ea.fz hra
  refine ⟨B, Fa', Γa, _, Xq, Ea', hq, fun vb rb Hb Fb Γb sb Eb hrb hq2 => ?_, kx.mono (sa.trans sa')⟩
  have hq2' : match rd Γb ra, rd Γb rb with
    | some x, some y => f x y (fun r => Q r Γb)
    | _, _ => False := hq2
  cases ex : rd Γb ra with
  | none => rw [ex] at hq2'; exact hq2'.elim
  | some x =>
    cases ey : rd Γb rb with
    | none => rw [ex, ey] at hq2'; exact hq2'.elim
    | some y =>
      rw [ex, ey] at hq2'
      have sx : Sh K Fb Hb va x := keepR Eb hra' (fz_isO ra) sb (by rw [rd_fz]; exact ex)
      exact p B Fb Hb σ Γb va vb x y _ Kn Eb sx (Eb.sh hrb ey) hq2' fun v r H' F' s' E' rr q => k v r H' F' Γb (((sa.trans sa').trans sb).trans s') E' rr q
end
section
variable {X : Cx} {W : WX} {pos : Pos} {a b c : Expr} {wa wb wc : WE} {r : R2} {f : FP}
theorem de_bin {op : Operator} (p : P2 X.K r f) (ho : OpR X (binaryOp op) r) (ha : DE X W a wa) (hb : DE X W b wb) : DE X W (.BinOp a op b pos) (wBin f wa wb) :=
  de_of (pe_op ho ha.pe hb.pe) fun _ _ _ h => lift2 p h
theorem de_cmp {op : CmpOp} (p : P2 X.K r f) (ho : OpR X (compareOp op) r) (ha : DE X W a wa) (hb : DE X W b wb) (hm : behindInMarks op b = false := by first | exact nomark _ | rfl) : DE X W (.Compare a [op] [b] pos) (wBin f wa wb) :=
  de_of (pe_cmpR ho ha.pe hb.pe hm) fun _ _ _ h => lift2 p h
theorem de_ix (p : P2 X.K r f) (ho : IxR X r) (ha : DE X W a wa) (hb : DE X W b wb) (hs : PlainIx b := by exact fun _ _ => rfl) : DE X W (.Subscript a b pos) (wBin f wa wb) :=
  de_of (pe_ix ho ha.pe hb.pe hs) fun _ _ _ h => lift2 p h
end
/-! ### arguments -/
def wNil : WA := fun Γ Q _ => Q [] Γ
def wCons (w : WE) (wr : WA) : WA := fun Γ Q X => w Γ (fun r Γ1 => wr Γ1 (fun rs Γ2 => Q (r.fz :: rs) Γ2) X) X
def rds (Γ : G) : List R → Option (List PyData)
  | [] => some []
  | r :: rs => match rd Γ r, rds Γ rs with
    | some x, some xs => some (x :: xs)
    | _, _ => none
section
variable {K : PySem.W.Frag} {mg : Str → Option Value} {W : WX} {B : Bs} {F F' H H' : Hp} {σ : St} {Γ : G}
theorem RRs.shs (E : EnvR K B F H σ Γ) : ∀ {rs : List R} {vs : List V} {xs : List PyData}, RRs K B F H σ Γ vs rs → rds Γ rs = some xs → Shs K F H vs xs
  | [], _, _, h, e => by cases e; exact h
  | r :: rs, vs, xs, h, e => by
    unfold rds at e
    cases ex : rd Γ r with
    | none => simp [ex] at e
    | some x =>
      cases es : rds Γ rs with
      | none => simp [ex, es] at e
      | some ys =>
        rw [ex, es] at e
        cases e
        obtain ⟨v, ws, e1, h1, h2⟩ := h
        refine ⟨v, ws, e1, ?_, RRs.shs E h2 es⟩
        cases r with
        | d y => exact keepR (F1 := F) (H1 := H) (Γ1 := Γ) E (r := .d y) h1 rfl (Same.id F) ex
        | o l => exact h1.elim
        | b i =>
          have ex' := ex
          unfold rd at ex'
          have q : ∃ (t : Sl) (m : List PyData), Γ[i]? = some t ∧ t.mu = some m := by
            cases e : Γ[i]? with
            | none => simp [e] at ex'
            | some t =>
              cases e2 : t.mu with
              | none => simp [e, e2] at ex'
              | some m => exact ⟨t, m, rfl, e2⟩
          exact E.sh (r := .b i) ⟨h1, q⟩ ex
end
section
variable {X : Cx} {W : WX} {pos : Pos} {e : Expr} {es : List Expr} {w : WE} {wr : WA}
theorem da_of {es : List Expr} {t : TA} {w : WA} (h : PA X es t) (k : ∀ σ H Q, liftA X.K X.mg W w σ H Q → t σ H Q) : DA X W es w := ⟨h.imp k⟩
theorem da_nil : DA X W [] wNil := da_of pa_nil fun σ H Kn ⟨B, F, Γ, Q, Xq, E, hw, k, _⟩ => k [] [] H F Γ (Same.id F) E rfl hw
theorem da_cons (ha : DE X W e w) (hr : DA X W es wr) (hs : starEach (e :: es) X.env = (false, eval e X.env) :: starEach es X.env := by rfl) : DA X W (e :: es) (wCons w wr) :=
  da_of (pa_cons ha.pe hr.pa hs) fun σ H Kn ⟨B, F, Γ, Q, Xq, E, hw, k, kx⟩ => by
    refine ⟨B, F, Γ, _, Xq, E, hw, fun va ra Ha Fa Γa sa Ea hra hq => ?_, kx⟩
    obtain ⟨Fa', sa', Ea', hra'⟩ := Ea.fz hra
    refine ⟨B, Fa', Γa, _, Xq, Ea', hq, fun vs rs Hb Fb Γb sb Eb hrb hq2 => ?_, kx.mono (sa.trans sa')⟩
    refine k (va :: vs) (ra.fz :: rs) Hb Fb Γb ((sa.trans sa').trans sb) Eb ⟨va, vs, rfl, ?_, hrb⟩ hq2
    revert hra'
    cases ra with
    | d y => exact fun h => Rep.mono sb _ _ h
    | o l => exact fun h => Rep.mono sb _ _ h
    | b i => exact fun h => h.1
end
abbrev FL := List PyData → (R → Prop) → Prop
def PL (K : PySem.W.Frag) (r : List V → Hp → VK → Prop) (f : FL) : Prop := ∀ (B : Bs) (F H : Hp) (σ : St) (Γ : G) (vs : List V) (xs : List PyData) (Q : R → Prop) (Kn : VK),
  EnvR K B F H σ Γ → Shs K F H vs xs → f xs Q → (∀ v r H' F', Same F F' → EnvR K B F' H' σ Γ → RR K B F' H' σ Γ v r → Q r → Kn v H') → r vs H Kn
def wPrim (f : FL) (wa : WA) : WE := fun Γ Q X => wa Γ (fun rs Γ1 => match rds Γ1 rs with
  | some xs => f xs (fun r => Q r Γ1)
  | none => False) X
theorem liftL {K : PySem.W.Frag} {mg : Str → Option Value} {W : WX} {H : Hp} {σ : St} {r : List V → Hp → VK → Prop} {f : FL} {wa : WA} {Kn : VK} (p : PL K r f) (h : liftE K mg W (wPrim f wa) σ H Kn) :
    liftA K mg W wa σ H fun vs H1 => r vs H1 Kn := by
  obtain ⟨B, F, Γ, Q, Xq, E, hw, k, kx⟩ := h
  refine ⟨B, F, Γ, _, Xq, E, hw, fun vs rs Ha Fa Γa sa Ea hra hq => ?_, kx⟩
  have hq' : match rds Γa rs with
    | some xs => f xs (fun r => Q r Γa)
    | none => False := hq
  cases ex : rds Γa rs with
  | none => rw [ex] at hq'; exact hq'.elim
  | some xs =>
    rw [ex] at hq'
    exact p B Fa Ha σ Γa vs xs _ Kn Ea (hra.shs Ea ex) hq' fun v r H' F' s' E' rr q => k v r H' F' Γa (sa.trans s') E' rr q
section
variable {X : Cx} {W : WX} {p pos : Pos} {x : Str} {id T : String} {e : Expr} {es : List Expr} {wa : WA} {r : List V → Hp → VK → Prop} {f : FL}
theorem de_callB (pl : PL X.K r f) (hc : CallR X (.builtin id) r) (hm : X.mg x = none) (hv : bootBuiltins x = some (.builtin id)) (ha : DA X W (e :: es) wa) (hg : Gl X x := by rfl) (hn : x ≠ "__name__" := by decide) (hdb : (x == ("__debug__" : Str)) = false := by decide)
    (he : starEach (e :: es) X.env = (false, eval e X.env) :: starEach es X.env := by rfl) (hpl : (backTo pos (starEach es X.env)).any (·.1) = false := by rfl) : DE X W (.Call (.Name x p) (e :: es) [] pos) (wPrim f wa) :=
  de_of (pe_callB hc hg hm hv ha.pa hn hdb he hpl) fun _ _ _ h => liftL pl h
theorem de_callTy (pl : PL X.K r f) (hc : CallR X (.type T) r) (hm : X.mg x = none) (hv : bootBuiltins x = some (.type T)) (ha : DA X W (e :: es) wa) (hg : Gl X x := by rfl) (hn : x ≠ "__name__" := by decide) (hdb : (x == ("__debug__" : Str)) = false := by decide)
    (he : starEach (e :: es) X.env = (false, eval e X.env) :: starEach es X.env := by rfl) (hpl : (backTo pos (starEach es X.env)).any (·.1) = false := by rfl) : DE X W (.Call (.Name x p) (e :: es) [] pos) (wPrim f wa) :=
  de_of (pe_callTy hc hg hm hv ha.pa hn hdb he hpl) fun _ _ _ h => liftL pl h
end
/-! ### tests -/
def wB (w : WE) : WT := fun Γ Q X => w Γ (fun r Γ1 => ∃ c, r = .d (.bool c) ∧ Q c Γ1) X
def wAndT (a b : WT) : WT := fun Γ Q X => a Γ (fun c Γ1 => if c = true then b Γ1 Q X else Q false Γ1) X
def wOrT (a b : WT) : WT := fun Γ Q X => a Γ (fun c Γ1 => if c = true then Q true Γ1 else b Γ1 Q X) X
def wNotT (a : WT) : WT := fun Γ Q X => a Γ (fun c Γ1 => Q (!c) Γ1) X
def wAndV (a b : WE) : WE := fun Γ Q X => a Γ (fun r Γ1 => ∃ c, r = .d (.bool c) ∧ if c = true then b Γ1 Q X else Q (.d (.bool false)) Γ1) X
def wOrV (a b : WE) : WE := fun Γ Q X => a Γ (fun r Γ1 => ∃ c, r = .d (.bool c) ∧ if c = true then Q (.d (.bool true)) Γ1 else b Γ1 Q X) X
def wNotV (a : WE) : WE := fun Γ Q X => a Γ (fun r Γ1 => ∃ c, r = .d (.bool c) ∧ Q (.d (.bool (!c))) Γ1) X
def wIf (t : WT) (a b : WE) : WE := fun Γ Q X => t Γ (fun c Γ1 => if c = true then a Γ1 Q X else b Γ1 Q X) X
section
variable {X : Cx} {W : WX} {pos : Pos} {e a b c : Expr} {rest : List Expr} {w wa wb : WE} {ta tb : WT}
theorem rr_bool {K : PySem.W.Frag} {B : Bs} {F H : Hp} {σ : St} {Γ : G} {v : V} {c : Bool} (h : RR K B F H σ Γ v (.d (.bool c))) : v = .bl c := h
theorem dt_val (h : DE X W e w) (he : ∀ whole, isTrue e X.env whole = (do let v ← whole; standAt e.pos; holding [v] (truthy v)) := by intro _; rfl) : DT X W e (wB w) :=
  ⟨(pt_val h.pe he).imp fun σ H Kn ⟨B, F, Γ, Q, Xq, E, hw, k, kx⟩ => ⟨B, F, Γ, _, Xq, E, hw, fun v r H' F' Γ' s E' rr q => by
    obtain ⟨c, e1, q⟩ := q
    subst e1
    exact ⟨c, rr_bool rr, k c H' F' Γ' s E' q⟩, kx⟩⟩
theorem dt_cmp {op : CmpOp} {r : R2} {f : FP} (p : P2 X.K r f) (ho : OpR X (compareOp op) r) (ha : DE X W a wa) (hb : DE X W b wb) (hm : behindInMarks op b = false := by first | exact nomark _ | rfl) : DT X W (.Compare a [op] [b] pos) (wB (wBin f wa wb)) :=
  ⟨(pt_cmpR ho ha.pe hb.pe hm).imp fun σ H Kn ⟨B, F, Γ, Q, Xq, E, hw, k, kx⟩ => lift2 (Kn := fun x H' => ∃ k, x = .bl k ∧ Kn k H') p ⟨B, F, Γ, _, Xq, E, hw, fun v r H' F' Γ' s E' rr q => by
    obtain ⟨c, e1, q⟩ := q
    subst e1
    exact ⟨c, rr_bool rr, k c H' F' Γ' s E' q⟩, kx⟩⟩
theorem dw_and1 (ha : DT X W a ta) : DW X W (.BoolOp .And [a] pos) ta := ⟨pw_and1 ha.pt⟩
theorem dw_or1 (ha : DT X W a ta) : DW X W (.BoolOp .Or [a] pos) ta := ⟨pw_or1 ha.pt⟩
theorem dw_and (ha : DT X W a ta) (hb : DW X W (.BoolOp .And (b :: rest) pos) tb) : DW X W (.BoolOp .And (a :: b :: rest) pos) (wAndT ta tb) :=
  ⟨(pw_and ha.pt hb.pw).imp fun σ H Kn ⟨B, F, Γ, Q, Xq, E, hw, k, kx⟩ => ⟨B, F, Γ, _, Xq, E, hw, fun c H' F' Γ' s E' q => by
    cases c with
    | true => exact ⟨B, F', Γ', Q, Xq, E', q, fun b H'' F'' Γ'' s' => k b H'' F'' Γ'' (s.trans s'), kx.mono s⟩
    | false => exact k false H' F' Γ' s E' q, kx⟩⟩
theorem dw_or (ha : DT X W a ta) (hb : DW X W (.BoolOp .Or (b :: rest) pos) tb) : DW X W (.BoolOp .Or (a :: b :: rest) pos) (wOrT ta tb) :=
  ⟨(pw_or ha.pt hb.pw).imp fun σ H Kn ⟨B, F, Γ, Q, Xq, E, hw, k, kx⟩ => ⟨B, F, Γ, _, Xq, E, hw, fun c H' F' Γ' s E' q => by
    cases c with
    | false => exact ⟨B, F', Γ', Q, Xq, E', q, fun b H'' F'' Γ'' s' => k b H'' F'' Γ'' (s.trans s'), kx.mono s⟩
    | true => exact k true H' F' Γ' s E' q, kx⟩⟩
theorem DW.dt (h : DW X W e ta) : DT X W e ta := ⟨h.pw.pt⟩
theorem dt_not (ha : DT X W a ta) : DT X W (.UnaryOp .Not a pos) (wNotT ta) :=
  ⟨(pt_not ha.pt).imp fun σ H Kn ⟨B, F, Γ, Q, Xq, E, hw, k, kx⟩ => ⟨B, F, Γ, _, Xq, E, hw, fun c H' F' Γ' s E' q => k (!c) H' F' Γ' s E' q, kx⟩⟩
theorem de_one {op} (h : DE X W a w) : DE X W (.BoolOp op [a] pos) w := ⟨pe_one h.pe⟩
theorem de_and (ha : DE X W a wa) (hb : DE X W (.BoolOp .And (b :: rest) pos) wb) : DE X W (.BoolOp .And (a :: b :: rest) pos) (wAndV wa wb) :=
  de_of (pe_and ha.pe hb.pe) fun σ H Kn ⟨B, F, Γ, Q, Xq, E, hw, k, kx⟩ => ⟨B, F, Γ, _, Xq, E, hw, fun v r H' F' Γ' s E' rr q => by
    obtain ⟨c, e1, q⟩ := q
    subst e1
    refine ⟨c, rr_bool rr, ?_⟩
    cases c with
    | true => exact ⟨B, F', Γ', Q, Xq, E', q, fun v r H'' F'' Γ'' s' => k v r H'' F'' Γ'' (s.trans s'), kx.mono s⟩
    | false => exact k (.bl false) (.d (.bool false)) H' F' Γ' s E' rfl q, kx⟩
theorem de_or (ha : DE X W a wa) (hb : DE X W (.BoolOp .Or (b :: rest) pos) wb) : DE X W (.BoolOp .Or (a :: b :: rest) pos) (wOrV wa wb) :=
  de_of (pe_or ha.pe hb.pe) fun σ H Kn ⟨B, F, Γ, Q, Xq, E, hw, k, kx⟩ => ⟨B, F, Γ, _, Xq, E, hw, fun v r H' F' Γ' s E' rr q => by
    obtain ⟨c, e1, q⟩ := q
    subst e1
    refine ⟨c, rr_bool rr, ?_⟩
    cases c with
    | false => exact ⟨B, F', Γ', Q, Xq, E', q, fun v r H'' F'' Γ'' s' => k v r H'' F'' Γ'' (s.trans s'), kx.mono s⟩
    | true => exact k (.bl true) (.d (.bool true)) H' F' Γ' s E' rfl q, kx⟩
theorem de_not (ha : DE X W a wa) : DE X W (.UnaryOp .Not a pos) (wNotV wa) :=
  de_of (pe_not ha.pe) fun σ H Kn ⟨B, F, Γ, Q, Xq, E, hw, k, kx⟩ => ⟨B, F, Γ, _, Xq, E, hw, fun v r H' F' Γ' s E' rr q => by
    obtain ⟨c, e1, q⟩ := q
    subst e1
    exact ⟨c, rr_bool rr, k (.bl (!c)) (.d (.bool (!c))) H' F' Γ' s E' rfl q⟩, kx⟩
theorem de_if (hc : DT X W c ta) (ha : DE X W a wa) (hb : DE X W b wb) : DE X W (.IfExp c a b pos) (wIf ta wa wb) :=
  de_of (pe_ifExp hc.pt ha.pe hb.pe) fun σ H Kn ⟨B, F, Γ, Q, Xq, E, hw, k, kx⟩ => ⟨B, F, Γ, _, Xq, E, hw, fun d H' F' Γ' s E' q => by
    cases d with
    | true => exact ⟨B, F', Γ', Q, Xq, E', q, fun v r H'' F'' Γ'' s' => k v r H'' F'' Γ'' (s.trans s'), kx.mono s⟩
    | false => exact ⟨B, F', Γ', Q, Xq, E', q, fun v r H'' F'' Γ'' s' => k v r H'' F'' Γ'' (s.trans s'), kx.mono s⟩, kx⟩
end
end DL

namespace DL
open PySem L2
/-! ### displays, slices, methods -/
def rdF : List R → Option (List PyData)
  | [] => some []
  | .d x :: rs => match rdF rs with
    | some xs => some (x :: xs)
    | none => none
  | _ :: _ => none
section
variable {K : PySem.W.Frag} {mg : Str → Option Value} {W : WX} {B : Bs} {F F' H H' : Hp} {σ : St} {Γ : G}
theorem RRs.reps : ∀ {rs : List R} {vs : List V} {xs : List PyData}, RRs K B F H σ Γ vs rs → rdF rs = some xs → Reps K F vs xs
  | [], _, _, h, e => by cases e; exact h
  | .d x :: rs, vs, xs, ⟨v, ws, e1, h1, h2⟩, e => by
    unfold rdF at e
    cases es : rdF rs with
    | none => rw [es] at e; cases e
    | some ys =>
      rw [es] at e
      cases e
      exact ⟨v, ws, e1, h1, RRs.reps h2 es⟩
  | .o l :: rs, _, _, _, e => by cases e
  | .b i :: rs, _, _, _, e => by cases e
end
def wTup (wa : WA) : WE := fun Γ Q X => wa Γ (fun rs Γ1 => match rdF rs with
  | some xs => xs.length ≤ 1000 ∧ Q (.d (.tuple xs)) Γ1
  | none => False) X
def wLst (wa : WA) : WE := fun Γ Q X => wa Γ (fun rs Γ1 => match rdF rs with
  | some xs => xs.length ≤ 1000 ∧ Q (.o xs) Γ1
  | none => False) X
theorem le_line {n : Nat} (h : n ≤ 1000) : n ≤ sizeLine := Nat.le_trans h (by decide)
section
variable {K : PySem.W.Frag} {B : Bs} {F H : Hp} {σ : St} {Γ : G}
/-- a new list of ours -/
theorem rr_new (E : EnvR K B F H σ Γ) {p : Addr} {vs : List V} {l : List PyData} (h : H p = none) (r : Reps K F vs l) : RR K B F (upd H p (.lst vs)) σ Γ (.ref p) (.o l) := by
  refine ⟨p, vs, rfl, none_back E.ex h, upd_same, r, E.old h, fun i s m hi hm e => ?_⟩
  · obtain ⟨_, ws, h3, _⟩ := E.muH hi hm e
    rw [h] at h3; cases h3
theorem rep_tup {p : Addr} {vs : List V} {l : List PyData} (hn : F p = none) (r : Reps K F vs l) : Rep K (upd F p (.tup vs)) (.ref p) (.tuple l) :=
  ⟨p, vs, rfl, SqT.of upd_same, Reps.mono (same_upd hn) _ _ r⟩
end
section
variable {X : Cx} {W : WX} {pos : Pos} {e o : Expr} {es : List Expr} {w wo : WE} {wa : WA}
theorem de_tup {x1} (h : DA X W es wa) : DE X W (.Tuple es x1 pos) (wTup wa) := de_of (pe_tup h.pa) fun σ H Kn ⟨B, F, Γ, Q, Xq, E, hw, k, kx⟩ =>
  ⟨B, F, Γ, _, Xq, E, hw, fun vs rs H' F' Γ' s E' hr q => by
    have q' : match rdF rs with
      | some xs => xs.length ≤ 1000 ∧ Q (.d (.tuple xs)) Γ'
      | none => False := q
    cases ex : rdF rs with
    | none => rw [ex] at q'; exact q'.elim
    | some xs =>
      rw [ex] at q'
      have rp := hr.reps ex
      refine ⟨by rw [rp.len]; exact le_line q'.1, fun p hp => ?_⟩
      exact k _ (.d (.tuple xs)) _ (upd F' p (.tup vs)) Γ' (s.trans (same_upd (none_back E'.ex hp))) (E'.lay hp) (rep_tup (none_back E'.ex hp) rp) q'.2, kx⟩
theorem de_lst (h : DA X W es wa) : DE X W (.List es pos) (wLst wa) := de_of (pe_lst h.pa) fun σ H Kn ⟨B, F, Γ, Q, Xq, E, hw, k, kx⟩ =>
  ⟨B, F, Γ, _, Xq, E, hw, fun vs rs H' F' Γ' s E' hr q => by
    have q' : match rdF rs with
      | some xs => xs.length ≤ 1000 ∧ Q (.o xs) Γ'
      | none => False := q
    cases ex : rdF rs with
    | none => rw [ex] at q'; exact q'.elim
    | some xs =>
      rw [ex] at q'
      have rp := hr.reps ex
      refine ⟨by rw [rp.len]; exact le_line q'.1, fun p hp => ?_⟩
      exact k _ (.o xs) _ F' Γ' s (E'.layH hp) (rr_new E' hp rp) q'.2, kx⟩
end
abbrev WO := G → (Option Int → G → Prop) → XQ → Prop
def liftO (K : PySem.W.Frag) (mg : Str → Option Value) (W : WX) (w : WO) : TO := fun σ H Kn => ∃ B F Γ Q X, EnvR K B F H σ Γ ∧ w Γ Q X ∧
  (∀ b H' F' Γ', Same F F' → EnvR K B F' H' σ Γ' → Q b Γ' → Kn b H') ∧ XOk K mg B F W σ X
structure DO (X : Cx) (W : WX) (e : Option Expr) (w : WO) : Prop where
  po : PO X e (liftO X.K X.mg W w)
theorem _root_.L2.PO.imp {X : Cx} {e : Option Expr} {t t' : TO} (h : PO X e t) (k : ∀ σ H Q, t' σ H Q → t σ H Q) : PO X e t' := ⟨fun pins s σ H Q I q => h.run pins s σ H Q I (k σ H Q q)⟩
def wNone : WO := fun Γ Q _ => Q none Γ
def wSome (w : WE) : WO := fun Γ Q X => w Γ (fun r Γ1 => ∃ i, r = .d (.int i) ∧ Q (some i) Γ1) X
abbrev FSl := PyData → Option Int → Option Int → (R → Prop) → Prop
def PSl (K : PySem.W.Frag) (r : V → Option Int → Option Int → Hp → VK → Prop) (f : FSl) : Prop := ∀ (B : Bs) (F H : Hp) (σ : St) (Γ : G) (u : V) (x : PyData) (lo hi : Option Int) (Q : R → Prop) (Kn : VK),
  EnvR K B F H σ Γ → Sh K F H u x → f x lo hi Q → (∀ v r H' F', Same F F' → EnvR K B F' H' σ Γ → RR K B F' H' σ Γ v r → Q r → Kn v H') → r u lo hi H Kn
def wSl (f : FSl) (w : WE) (wl wh : WO) : WE := fun Γ Q X => w Γ (fun r Γ1 => wl Γ1 (fun lo Γ2 => wh Γ2 (fun hi Γ3 => match rd Γ3 r with
  | some x => f x lo hi (fun r => Q r Γ3)
  | none => False) X) X) X
section
variable {X : Cx} {W : WX} {pos p2 : Pos} {e : Expr} {lo hi : Option Expr} {w : WE} {wl wh : WO}
theorem do_none : DO X W none wNone := ⟨po_none.imp fun σ H Kn ⟨B, F, Γ, Q, Xq, E, hw, k, kx⟩ => k none H F Γ (Same.id F) E hw⟩
theorem do_some (h : DE X W e w) : DO X W (some e) (wSome w) := ⟨(po_some h.pe).imp fun σ H Kn ⟨B, F, Γ, Q, Xq, E, hw, k, kx⟩ => ⟨B, F, Γ, _, Xq, E, hw, fun v r H' F' Γ' s E' rr q => by
  obtain ⟨i, e1, q⟩ := q
  subst e1
  exact ⟨i, rr, k (some i) H' F' Γ' s E' q⟩, kx⟩⟩
theorem de_sl {r : V → Option Int → Option Int → Hp → VK → Prop} {f : FSl} (p : PSl X.K r f) (hr : SlR X r) (he : DE X W e w) (hl : DO X W lo wl) (hu : DO X W hi wh) : DE X W (.Subscript e (.Slice lo hi none p2) pos) (wSl f w wl wh) :=
  de_of (pe_slice hr he.pe hl.po hu.po) fun σ H Kn ⟨B, F, Γ, Q, Xq, E, hw, k, kx⟩ => ⟨B, F, Γ, _, Xq, E, hw, fun v r H1 F1 Γ1 s1 E1 rr q1 => by
    obtain ⟨F1', s1', E1', rr'⟩ := E1.fz rr
    refine ⟨B, F1', Γ1, _, Xq, E1', q1, fun l H2 F2 Γ2 s2 E2 q2 => ⟨B, F2, Γ2, _, Xq, E2, q2, fun u H3 F3 Γ3 s3 E3 q3 => ?_, kx.mono ((s1.trans s1').trans s2)⟩, kx.mono (s1.trans s1')⟩
    have q3' : match rd Γ3 r with
      | some x => f x l u (fun r => Q r Γ3)
      | none => False := q3
    cases ex : rd Γ3 r with
    | none => rw [ex] at q3'; exact q3'.elim
    | some x =>
      rw [ex] at q3'
      have sx : Sh X.K F3 H3 v x := keepR E3 rr' (fz_isO r) (s2.trans s3) (by rw [rd_fz]; exact ex)
      exact p B F3 H3 σ Γ3 v x l u _ Kn E3 sx q3' fun v r H' F' s' E' rr q => k v r H' F' Γ3 ((((s1.trans s1').trans s2).trans s3).trans s') E' rr q, kx⟩
end
/-- s.m(), s.m(e): s a text -/
def wM0 (f : PyData → (R → Prop) → Prop) (wo : WE) : WE := fun Γ Q X => wo Γ (fun ro Γ1 => ∃ s, ro = .d (.str s) ∧ f (.str s) (fun r => Q r Γ1)) X
def wM1 (f : FP) (wo we : WE) : WE := fun Γ Q X => wo Γ (fun ro Γ1 => ∃ s, ro = .d (.str s) ∧ we Γ1 (fun re Γ2 => match rd Γ2 re with
  | some y => f (.str s) y (fun r => Q r Γ2)
  | none => False) X) X
def P1 (K : PySem.W.Frag) (r : V → Hp → VK → Prop) (f : PyData → (R → Prop) → Prop) : Prop := ∀ (B : Bs) (F H : Hp) (σ : St) (Γ : G) (u : V) (x : PyData) (Q : R → Prop) (Kn : VK),
  EnvR K B F H σ Γ → Sh K F H u x → f x Q → (∀ v r H' F', Same F F' → EnvR K B F' H' σ Γ → RR K B F' H' σ Γ v r → Q r → Kn v H') → r u H Kn
section
variable {X : Cx} {W : WX} {e o : Expr} {we wo : WE} {id : String} {name : Str} {apos pos : Pos} {r : V → List V → Hp → VK → Prop}
theorem de_m1 {f : FP} (p : P2 X.K (fun x y H Q => r x [y] H Q) f) (slot : Slot "str" name id) (ty : typeOf (.builtin id) = pure (.type "method_descriptor")) (rule : MtR X id r) (ho : DE X W o wo) (he : DE X W e we)
    (hs : starEach [e] X.env = [(false, eval e X.env)] := by rfl) (hbase : attributeBase o name X.env (eval o X.env) = eval o X.env := by rfl) (hline : (apos.endLine == pos.line) = true := by rfl) :
    DE X W (.Call (.Attribute o name apos) [e] [] pos) (wM1 f wo we) :=
  de_of (pe_m1 slot ty rule ho.pe he.pe hs hbase hline) fun σ H Kn ⟨B, F, Γ, Q, Xq, E, hw, k, kx⟩ => ⟨B, F, Γ, _, Xq, E, hw, fun v ro H1 F1 Γ1 s1 E1 rr q1 => by
    obtain ⟨s, e1, q1⟩ := q1
    subst e1
    refine ⟨⟨s, rr⟩, B, F1, Γ1, _, Xq, E1, q1, fun u re H2 F2 Γ2 s2 E2 rr2 q2 => ?_, kx.mono s1⟩
    have q2' : match rd Γ2 re with
      | some y => f (.str s) y (fun r => Q r Γ2)
      | none => False := q2
    cases ex : rd Γ2 re with
    | none => rw [ex] at q2'; exact q2'.elim
    | some y =>
      rw [ex] at q2'
      exact p B F2 H2 σ Γ2 v u (.str s) y _ Kn E2 rr (E2.sh rr2 ex) q2' fun v r H' F' s' E' rr q => k v r H' F' Γ2 ((s1.trans s2).trans s') E' rr q, kx⟩
theorem de_m0 {f : PyData → (R → Prop) → Prop} (p : P1 X.K (fun x H Q => r x [] H Q) f) (slot : Slot "str" name id) (ty : typeOf (.builtin id) = pure (.type "method_descriptor")) (rule : MtR X id r) (ho : DE X W o wo)
    (hbase : attributeBase o name X.env (eval o X.env) = eval o X.env := by rfl) (hline : (apos.endLine == pos.line) = true := by rfl) :
    DE X W (.Call (.Attribute o name apos) [] [] pos) (wM0 f wo) :=
  de_of (pe_m0 slot ty rule ho.pe hbase hline) fun σ H Kn ⟨B, F, Γ, Q, Xq, E, hw, k, kx⟩ => ⟨B, F, Γ, _, Xq, E, hw, fun v ro H1 F1 Γ1 s1 E1 rr q1 => by
    obtain ⟨s, e1, q1⟩ := q1
    subst e1
    exact ⟨⟨s, rr⟩, p B F1 H1 σ Γ1 v (.str s) _ Kn E1 rr q1 fun v r H' F' s' E' rr q => k v r H' F' Γ1 (s1.trans s') E' rr q⟩, kx⟩
end
/-! ### calls of defs -/
abbrev FS := List Sl → (R → List (List PyData) → Prop) → (XN → Prop) → Prop
def CellsR (K : PySem.W.Frag) (F H : Hp) : List V → List Sl → List (List PyData) → Prop
  | v :: vs, .cell _ :: as, c :: cs => (∃ p ws, v = .ref p ∧ F p = none ∧ H p = some (.lst ws) ∧ Reps K F ws c) ∧ CellsR K F H vs as cs
  | _ :: _, .cell _ :: _, [] => False
  | _ :: vs, _ :: as, cs => CellsR K F H vs as cs
  | [], [], [] => True
  | _, _, _ => False
/-- a result of a call, in the callee's own terms: free of the caller's things -/
def RC (K : PySem.W.Frag) (H0 F H : Hp) (v : V) : R → Prop
  | .d x => Rep K F v x
  | .o l => ∃ p vs, v = .ref p ∧ F p = none ∧ H p = some (.lst vs) ∧ Reps K F vs l ∧ H0 p = none
  | .b _ => False
def spOf (K : PySem.W.Frag) (mg : Str → Option Value) (fs : FS) : Sp := fun vs H Q E => ∃ pin F as Q' X', EnvR K ⟨H, F, pin⟩ F H (vs.map some) as ∧ (∀ s ∈ as, ∀ l, s ≠ Sl.own l) ∧ fs as Q' X' ∧
  (∀ v r H' F' cs, Same F F' → Same F' H' → keepB ⟨H, F, pin⟩ H' → (∀ a o, H a = some o → F' a = F a) → CellsR K F' H' vs as cs → RC K H F' H' v r → Q' r cs → Q v H') ∧
  (∀ x cls dd H' F', X' x → Same F F' → Same F' H' → keepB ⟨H, F, pin⟩ H' → (∀ a o, H a = some o → F' a = F a) → XR K mg F' H' x cls dd → E cls dd H')
/-- a def that keeps fs -/
structure Ca (P : Program) (w : World) (K : PySem.W.Frag) (mg : Str → Option Value) (base : Heap) (x : Str) (k : Nat) (fs : FS) : Prop where
  ex : ∃ f fd ps, FnOk P w K mg base (L2.CX P w) k f fd ps (spOf K mg fs) ∧ mg x = some (.ref f) ∧ PySem.W.keepIn K (.ref f) = true ∧ Binds K fd ps []
theorem Ca.mono {P : Program} {w : World} {K : PySem.W.Frag} {mg : Str → Option Value} {base : Heap} {x : Str} {j k : Nat} {fs : FS} (c : Ca P w K mg base x j fs) (h : j ≤ k) : Ca P w K mg base x k fs := by
  obtain ⟨f, fd, ps, h1, h2⟩ := c.ex
  exact ⟨f, fd, ps, h1.mono h, h2⟩
def argSl (Γ : G) : R → Option Sl
  | .d x => some (.v x)
  | .o l => some (.v (.list l))
  | .b i => match Γ[i]? with
    | some s => s.mu.map Sl.cell
    | none => none
def argSls (Γ : G) : List R → Option (List Sl)
  | [] => some []
  | r :: rs => match argSl Γ r, argSls Γ rs with
    | some s, some ss => some (s :: ss)
    | _, _ => none
def noB : List R → Bool
  | [] => true
  | .b _ :: _ => false
  | _ :: rs => noB rs
def fewB : List R → Bool
  | [] => true
  | .b _ :: rs => noB rs
  | _ :: rs => fewB rs
/-- behind a call: what became of the one list that was handed on -/
def putB (Γ : G) : List R → List (List PyData) → Option G
  | [], _ => some Γ
  | .b i :: _, c :: _ => match Γ[i]? with
    | some s => some (Γ.set i (s.put c))
    | none => none
  | .b _ :: _, [] => none
  | _ :: rs, cs => putB Γ rs cs
def wCall (fs : FS) (wa : WA) : WE := fun Γ Q X => wa Γ (fun rs Γ1 => fewB rs = true ∧ match argSls Γ1 rs with
  | some as => fs as (fun r cs => match putB Γ1 rs cs with | some Γ2 => Q r Γ2 | none => True) (fun x => noB rs = true ∧ X x Γ1)
  | none => False) X
end DL

namespace DL
open PySem L2
section
variable {K : PySem.W.Frag} {mg : Str → Option Value} {W : WX} {B : Bs} {F F' H H' : Hp} {σ : St} {Γ : G}
theorem mu_put {s : Sl} {l c : List PyData} (h : s.mu = some l) : (s.put c).mu = some c := by cases s <;> first | rfl | cases h
theorem put_own {s : Sl} {l c m : List PyData} (h : s.mu = some l) (e : s.put c = Sl.own m) : s = Sl.own l := by
  cases s <;> first | cases h | skip
  · rfl
  · cases e
theorem put_cell {s : Sl} {l c m : List PyData} (h : s.mu = some l) (e : s.put c = Sl.cell m) : s = Sl.cell l := by
  cases s <;> first | cases h | skip
  · cases e
  · rfl
/-- a list of ours is written -/
theorem EnvR.write (E : EnvR K B F H σ Γ) {i : Nat} {s : Sl} {l c : List PyData} {p : Addr} {ws : List V} (hi : Γ[i]? = some s) (hm : s.mu = some l) (hp : σ[i]? = some (some (V.ref p)))
    (k : ∀ a o, a ≠ p → H a = some o → H' a = some o) (e2 : Same F F') (e3 : Same F' H') (hn : ∀ a o, H a = some o → F' a = F a) (h' : H' p = some (.lst ws)) (hr : Reps K F' ws c)
    (hf : ∀ (a : Addr) (o : HO), B.H0 a = some o → F' a = F a) : EnvR K B F' H' σ (Γ.set i (s.put c)) := by
  obtain ⟨q, vs, q1, q2, q3, q4, q5⟩ := E.mu i s l hi hm
  rw [hp] at q1
  cases q1
  have hl := lt_of_get hi
  refine ⟨e3, by rw [List.length_set]; exact E.len, fun j d hj => ?_, fun j t m hj ht => ?_, fun j q hq => ?_, fun j m hj => ?_, fun j n t u m m' q hj hk ht hu e1 e2 => ?_, fun a o ha hb => ?_, fun a o q => (hf a o q).trans (E.frz a o q)⟩
  · by_cases hij : i = j
    · subst hij
      rw [get_set_self hl] at hj
      have := mu_put (c := c) hm
      rw [Option.some.inj hj] at this
      cases this
    · rw [get_set_ne hij] at hj
      obtain ⟨w, a1, a2⟩ := E.val j d hj
      exact ⟨w, a1, Rep.mono e2 _ _ a2⟩
  · by_cases hij : i = j
    · subst hij
      rw [get_set_self hl] at hj
      cases hj
      rw [mu_put hm] at ht
      cases ht
      exact ⟨p, ws, hp, (hn p _ q3).trans q2, h', hr, fun e => q5 (by rw [put_own hm e])⟩
    · rw [get_set_ne hij] at hj
      obtain ⟨q, us, a1, a2, a3, a4, a5⟩ := E.mu j t m hj ht
      have hqp : q ≠ p := fun z => by
        subst z
        exact hij (E.apart i j s t l m q hi hj hm ht hp a1)
      exact ⟨q, us, a1, (hn q _ a3).trans a2, k q _ hqp a3, Reps.mono e2 _ _ a4, a5⟩
  · obtain ⟨m, a1, a2⟩ := E.pin j q hq
    by_cases hij : i = j
    · subst hij
      rw [hi] at a1
      cases a1
      exact ⟨c, by rw [get_set_self hl]; rfl, a2⟩
    · exact ⟨m, by rw [get_set_ne hij]; exact a1, a2⟩
  · by_cases hij : i = j
    · subst hij
      rw [get_set_self hl] at hj
      have := put_cell hm (Option.some.inj hj)
      subst this
      exact E.cel i l hi
    · rw [get_set_ne hij] at hj
      exact E.cel j m hj
  · have back : ∀ {j : Nat} {t : Sl} {m : List PyData}, (Γ.set i (s.put c))[j]? = some t → t.mu = some m → ∃ (t' : Sl) (m' : List PyData), Γ[j]? = some t' ∧ t'.mu = some m' := fun {j t m} hj ht => by
      by_cases hij : i = j
      · subst hij; exact ⟨s, l, hi, hm⟩
      · rw [get_set_ne hij] at hj; exact ⟨t, m, hj, ht⟩
    obtain ⟨t', m1, b1, b2⟩ := back hj ht
    obtain ⟨u', m2, b3, b4⟩ := back hk hu
    exact E.apart j n t' u' m1 m2 q b1 b3 b2 b4 e1 e2
  · have hap : a ≠ p := fun z => by
      subst z
      cases s with
      | no => cases hm
      | v _ => cases hm
      | own m => rw [q5 (by cases hm; rfl)] at ha; cases ha
      | cell m =>
        obtain ⟨p', hp'⟩ := E.cel i m hi
        obtain ⟨_, _, b2⟩ := E.pin i p' hp'
        rw [hp] at b2
        cases b2
        exact hb i hp'
    exact k a o hap (E.keep a o ha hb)
end
/-! ### a call -/
section
variable {K : PySem.W.Frag} {mg : Str → Option Value} {W : WX} {B : Bs} {F F' H H' : Hp} {σ : St} {Γ : G}
theorem args_at : ∀ {rs : List R} {vs : List V} {as : List Sl}, RRs K B F H σ Γ vs rs → argSls Γ rs = some as → vs.length = as.length ∧ ∀ (j : Nat) (s : Sl), as[j]? = some s → ∃ (v : V) (r : R), vs[j]? = some v ∧ rs[j]? = some r ∧ argSl Γ r = some s ∧
    (match r with | .d x => Rep K F v x | .o _ => False | .b i => σ[i]? = some (some v))
  | [], vs, as, h, e => by
    rw [show vs = [] from h]
    cases e
    exact ⟨rfl, fun j s q => by simp at q⟩
  | r :: rs, vs, as, h, e => by
    unfold argSls at e
    cases ea : argSl Γ r with
    | none => rw [ea] at e; cases e
    | some s0 =>
      cases es : argSls Γ rs with
      | none => rw [ea, es] at e; cases e
      | some ss =>
        rw [ea, es] at e
        cases e
        obtain ⟨v, ws, e1, h1, h2⟩ := h
        subst e1
        obtain ⟨hl, hg⟩ := args_at h2 es
        refine ⟨by rw [List.length_cons, List.length_cons, hl], fun j s q => ?_⟩
        cases j with
        | zero => simp at q; subst q; exact ⟨v, r, rfl, rfl, ea, h1⟩
        | succ j =>
          obtain ⟨v', r', a1, a2, a3⟩ := hg j s (by simpa using q)
          exact ⟨v', r', by simpa using a1, by simpa using a2, a3⟩
theorem noB_at : ∀ {rs : List R} {i a : Nat}, noB rs = true → rs[i]? ≠ some (R.b a)
  | [], _, _, _ => by simp
  | .b _ :: _, _, _, h => by cases h
  | .d _ :: rs, 0, _, _ => by simp
  | .o _ :: rs, 0, _, _ => by simp
  | .d _ :: rs, i + 1, a, h => by simpa using noB_at (rs := rs) (i := i) (a := a) h
  | .o _ :: rs, i + 1, a, h => by simpa using noB_at (rs := rs) (i := i) (a := a) h
theorem fewB_at : ∀ {rs : List R} {i j a b : Nat}, fewB rs = true → rs[i]? = some (R.b a) → rs[j]? = some (R.b b) → i = j
  | [], _, _, _, _, _, h, _ => by simp at h
  | .b _ :: rs, 0, 0, _, _, _, _, _ => rfl
  | .b _ :: rs, i + 1, _, a, _, h, h1, _ => absurd (by simpa using h1) (noB_at (rs := rs) (i := i) (a := a) h)
  | .b _ :: rs, _, j + 1, _, b, h, _, h2 => absurd (by simpa using h2) (noB_at (rs := rs) (i := j) (a := b) h)
  | .d _ :: rs, 0, _, _, _, _, h1, _ => by simp at h1
  | .d _ :: rs, _, 0, _, _, _, _, h2 => by simp at h2
  | .o _ :: rs, 0, _, _, _, _, h1, _ => by simp at h1
  | .o _ :: rs, _, 0, _, _, _, _, h2 => by simp at h2
  | .d _ :: rs, i + 1, j + 1, a, b, h, h1, h2 => by rw [fewB_at (rs := rs) (i := i) (j := j) h (by simpa using h1) (by simpa using h2)]
  | .o _ :: rs, i + 1, j + 1, a, b, h, h1, h2 => by rw [fewB_at (rs := rs) (i := i) (j := j) h (by simpa using h1) (by simpa using h2)]
def pinC (rs : List R) (vs : List V) (j : Nat) : Option Addr := match rs[j]?, vs[j]? with
  | some (.b _), some (.ref p) => some p
  | _, _ => none
theorem pinC_some {rs : List R} {vs : List V} {j : Nat} {p : Addr} (h : pinC rs vs j = some p) : ∃ i, rs[j]? = some (R.b i) ∧ vs[j]? = some (V.ref p) := by
  unfold pinC at h
  split at h
  · rename_i i q h1 h2
    cases h
    exact ⟨i, h1, h2⟩
  · cases h
theorem call_env (E : EnvR K B F H σ Γ) {rs : List R} {vs : List V} {as : List Sl} (hr : RRs K B F H σ Γ vs rs) (few : fewB rs = true) (ha : argSls Γ rs = some as) :
    EnvR K ⟨H, F, pinC rs vs⟩ F H (vs.map some) as ∧ ∀ s ∈ as, ∀ l, s ≠ Sl.own l := by
  obtain ⟨hl, hg⟩ := args_at hr ha
  have look : ∀ {j : Nat} {v : V}, vs[j]? = some v → (vs.map some)[j]? = some (some v) := fun {j v} h => by rw [List.getElem?_map, h]; rfl
  have at_cell : ∀ {j : Nat} {s : Sl} {l : List PyData}, as[j]? = some s → s.mu = some l → ∃ i p t, rs[j]? = some (R.b i) ∧ vs[j]? = some (V.ref p) ∧ Γ[i]? = some t ∧ t.mu = some l ∧ σ[i]? = some (some (V.ref p)) ∧ s = Sl.cell l := fun {j s l} h hm => by
    obtain ⟨v, r, h1, h2, h3, h4⟩ := hg j s h
    cases r with
    | d x => cases h3; cases hm
    | o x => exact h4.elim
    | b i =>
      have h3' : (match Γ[i]? with | some s => s.mu.map Sl.cell | none => none) = some s := h3
      cases e : Γ[i]? with
      | none => rw [e] at h3'; cases h3'
      | some t =>
        rw [e] at h3'
        have h3'' : t.mu.map Sl.cell = some s := h3'
        cases e2 : t.mu with
        | none => rw [e2] at h3''; cases h3''
        | some m =>
          rw [e2] at h3''
          cases h3''
          cases hm
          obtain ⟨p, ws, b1, _⟩ := E.mu i t _ e e2
          have h4' : σ[i]? = some (some v) := h4
          rw [b1] at h4'
          cases h4'
          exact ⟨i, p, t, h2, h1, e, e2, b1, rfl⟩
  have shape : ∀ {j : Nat} {s : Sl}, as[j]? = some s → (∃ d, s = Sl.v d) ∨ ∃ l, s = Sl.cell l := fun {j s} h => by
    obtain ⟨v, r, h1, h2, h3, h4⟩ := hg j s h
    cases r with
    | d x => cases h3; exact .inl ⟨_, rfl⟩
    | o x => exact h4.elim
    | b i =>
      have h3' : (match Γ[i]? with | some s => s.mu.map Sl.cell | none => none) = some s := h3
      cases e : Γ[i]? with
      | none => rw [e] at h3'; cases h3'
      | some t =>
        rw [e] at h3'
        have h3'' : t.mu.map Sl.cell = some s := h3'
        cases e2 : t.mu with
        | none => rw [e2] at h3''; cases h3''
        | some m => rw [e2] at h3''; cases h3''; exact .inr ⟨_, rfl⟩
  refine ⟨⟨E.ex, by rw [List.length_map]; exact hl, fun j d hj => ?_, fun j s l hj hm => ?_, fun j p hp => ?_, fun j l hj => ?_, fun i j s t l m p h1 h2 h3 h4 _ _ => ?_, fun a o h _ => h, fun _ _ _ => rfl⟩, fun s hs l e => ?_⟩
  · obtain ⟨v, r, h1, h2, h3, h4⟩ := hg j _ hj
    cases r with
    | d x => cases h3; exact ⟨v, look h1, h4⟩
    | o x => exact h4.elim
    | b i =>
      have h3' : (match Γ[i]? with | some s => s.mu.map Sl.cell | none => none) = some (Sl.v d) := h3
      cases e : Γ[i]? with
      | none => rw [e] at h3'; cases h3'
      | some t =>
        rw [e] at h3'
        have h3'' : t.mu.map Sl.cell = some (Sl.v d) := h3'
        cases e2 : t.mu with
        | none => rw [e2] at h3''; cases h3''
        | some m => rw [e2] at h3''; cases h3''
  · obtain ⟨i, p, t, b1, b2, b3, b4, b5, b6⟩ := at_cell hj hm
    obtain ⟨c1, ws, c2, c3⟩ := E.muH b3 b4 b5
    exact ⟨p, ws, look b2, c1, c2, c3, fun e => by rw [b6] at e; cases e⟩
  · obtain ⟨i, b1, b2⟩ := pinC_some hp
    have hj : j < as.length := by rw [← hl]; exact (List.getElem?_eq_some_iff.mp b2).1
    obtain ⟨v, r, h1, h2, h3, h4⟩ := hg j _ (List.getElem?_eq_getElem hj)
    rw [b1] at h2
    cases h2
    rcases shape (List.getElem?_eq_getElem hj) with ⟨d, e⟩ | ⟨l, e⟩
    · rw [e] at h3
      have h3' : (match Γ[i]? with | some s => s.mu.map Sl.cell | none => none) = some (Sl.v d) := h3
      cases e : Γ[i]? with
      | none => rw [e] at h3'; cases h3'
      | some t =>
        rw [e] at h3'
        have h3'' : t.mu.map Sl.cell = some (Sl.v d) := h3'
        cases e2 : t.mu with
        | none => rw [e2] at h3''; cases h3''
        | some m => rw [e2] at h3''; cases h3''
    · exact ⟨l, by rw [List.getElem?_eq_getElem hj, e], look b2⟩
  · obtain ⟨i, p, t, b1, b2, b3, b4, b5, b6⟩ := at_cell hj rfl
    exact ⟨p, by show pinC rs vs j = some p; unfold pinC; rw [b1, b2]⟩
  · obtain ⟨_, _, _, b1, _⟩ := at_cell h1 h3
    obtain ⟨_, _, _, c1, _⟩ := at_cell h2 h4
    exact fewB_at few b1 c1
  · obtain ⟨j, hj, hjs⟩ := List.getElem_of_mem hs
    have := shape (List.getElem?_eq_some_iff.mpr ⟨hj, hjs⟩)
    rcases this with ⟨d, e'⟩ | ⟨m, e'⟩ <;> rw [e] at e' <;> cases e'
/-- where the one handed list stands -/
theorem few_at : ∀ {rs : List R} {vs : List V} {as : List Sl} {cs : List (List PyData)} {Γ' : G}, RRs K B F H σ Γ vs rs → argSls Γ rs = some as → fewB rs = true → CellsR K F' H' vs as cs → putB Γ rs cs = some Γ' →
    (noB rs = true ∧ Γ' = Γ) ∨ ∃ (i : Nat) (s : Sl) (l : List PyData) (p : Addr) (c : List PyData) (ws : List V), (∃ j : Nat, rs[j]? = some (R.b i) ∧ vs[j]? = some (V.ref p)) ∧ Γ[i]? = some s ∧ s.mu = some l ∧ σ[i]? = some (some (V.ref p)) ∧ Γ' = Γ.set i (s.put c) ∧ H' p = some (.lst ws) ∧ Reps K F' ws c
  | [], vs, as, cs, Γ', _, _, _, _, e => by cases e; exact .inl ⟨rfl, rfl⟩
  | .o _ :: _, _, _, _, _, ⟨_, _, _, h, _⟩, _, _, _, _ => h.elim
  | .d x :: rs, vs, as, cs, Γ', ⟨v, ws, e1, h1, h2⟩, ha, few, hc, hp => by
    subst e1
    unfold argSls at ha
    cases es : argSls Γ rs with
    | none => simp [argSl, es] at ha
    | some ss =>
      have ha' : as = Sl.v x :: ss := by simp [argSl, es] at ha; exact ha.symm
      subst ha'
      rcases few_at h2 es few hc hp with q | ⟨i, s, l, p, c, us, ⟨j, a1, a2⟩, q⟩
      · exact .inl q
      · exact .inr ⟨i, s, l, p, c, us, ⟨j + 1, by simpa using a1, by simpa using a2⟩, q⟩
  | .b i :: rs, vs, as, cs, Γ', ⟨v, ws, e1, h1, h2⟩, ha, few, hc, hp => by
    subst e1
    unfold argSls at ha
    cases e : Γ[i]? with
    | none => simp [argSl, e] at ha
    | some t =>
      cases e2 : t.mu with
      | none => simp [argSl, e, e2] at ha
      | some m =>
        cases es : argSls Γ rs with
        | none => simp [argSl, e, e2, es] at ha
        | some ss =>
          have ha' : as = Sl.cell m :: ss := by simp [argSl, e, e2, es] at ha; exact ha.symm
          subst ha'
          cases cs with
          | nil => exact (show False from hc).elim
          | cons c cs =>
            have hc' : (∃ p ws, v = V.ref p ∧ F' p = none ∧ H' p = some (.lst ws) ∧ Reps K F' ws c) ∧ CellsR K F' H' ws ss cs := hc
            obtain ⟨⟨p, us, b1, b2, b3, b4⟩, _⟩ := hc'
            subst b1
            have hp' : (match Γ[i]? with | some s => some (Γ.set i (s.put c)) | none => none) = some Γ' := hp
            rw [e] at hp'
            cases hp'
            exact .inr ⟨i, t, m, p, c, us, ⟨0, rfl, rfl⟩, e, e2, h1, rfl, b3, b4⟩
theorem call_back (E : EnvR K B F H σ Γ) {rs : List R} {vs : List V} {as : List Sl} {cs : List (List PyData)} {Γ' : G} (hr : RRs K B F H σ Γ vs rs) (ha : argSls Γ rs = some as) (few : fewB rs = true)
    (s1 : Same F F') (s2 : Same F' H') (kp : keepB ⟨H, F, pinC rs vs⟩ H') (fz : ∀ a o, H a = some o → F' a = F a) (hc : CellsR K F' H' vs as cs) (hp : putB Γ rs cs = some Γ') : EnvR K B F' H' σ Γ' := by
  have hf : ∀ a o, B.H0 a = some o → F' a = F a := fun a o h => by
    cases q : H a with
    | some u => exact fz a u q
    | none => rw [E.old q] at h; cases h
  rcases few_at hr ha few hc hp with ⟨n, e⟩ | ⟨i, s, l, p, c, ws, ⟨j, a1, a2⟩, b1, b2, b3, b4, b5, b6⟩
  · subst e
    have sH : Same H H' := fun a o h => kp a o h fun j z => by
      obtain ⟨i, b1, _⟩ := pinC_some z
      exact noB_at n b1
    exact E.grow sH s1 s2 (fun i s l q h1 h2 h3 => by
      obtain ⟨c1, ws, c2, _⟩ := E.muH h1 h2 h3
      rw [fz q _ c2]; exact c1) hf
  · subst b4
    refine E.write b1 b2 b3 (fun a o n h => kp a o h fun j' z => ?_) s1 s2 fz b5 b6 hf
    obtain ⟨i', c1, c2⟩ := pinC_some z
    have := fewB_at few a1 c1
    subst this
    rw [a2] at c2
    cases c2
    exact n rfl
theorem rc_rr (E : EnvR K B F H σ Γ) {Γ' : G} {v : V} {r : R} (hmu : ∀ (i : Nat) (s : Sl) (m : List PyData), Γ'[i]? = some s → s.mu = some m → ∃ (s' : Sl) (m' : List PyData), Γ[i]? = some s' ∧ s'.mu = some m') (h : RC K H F' H' v r) : RR K B F' H' σ Γ' v r := by
  cases r with
  | d x => exact h
  | b i => exact h.elim
  | o l =>
    obtain ⟨p, vs, e, h1, h2, h3, h4⟩ := h
    refine ⟨p, vs, e, h1, h2, h3, E.old h4, fun i s m q1 q2 z => ?_⟩
    obtain ⟨s', m', c1, c2⟩ := hmu i s m q1 q2
    obtain ⟨_, ws, c3, _⟩ := E.muH c1 c2 z
    rw [h4] at c3; cases c3
theorem lift_call {fs : FS} {wa : WA} {Kn : VK} (h : liftE K mg W (wCall fs wa) σ H Kn) : liftA K mg W wa σ H fun vs H1 => spOf K mg fs vs H1 Kn (L2.WE W σ) := by
  obtain ⟨B, F, Γ, Q, Xq, E, hw, k, kx⟩ := h
  refine ⟨B, F, Γ, _, Xq, E, hw, fun vs rs H1 F1 Γ1 s1 E1 rr q => ?_, kx⟩
  obtain ⟨few, q⟩ := q
  cases ea : argSls Γ1 rs with
  | none => rw [ea] at q; exact q.elim
  | some as =>
    rw [ea] at q
    obtain ⟨Ec, noown⟩ := call_env E1 rr few ea
    refine ⟨pinC rs vs, F1, as, _, _, Ec, noown, q, fun v r H' F' cs a1 a2 a3 a4 a5 a6 a7 => ?_, fun x cls dd H' F' a1 a2 a3 a4 a5 a6 => ?_⟩
    · cases ep : putB Γ1 rs cs with
      | none =>
        -- every handed list has its end
        exfalso
        have : ∀ (rs : List R) (vs : List V) (as : List Sl) (cs : List (List PyData)), argSls Γ1 rs = some as → CellsR K F' H' vs as cs → putB Γ1 rs cs ≠ none := by
          intro rs
          induction rs with
          | nil => intro vs as cs _ _ z; cases z
          | cons r rs ih =>
            intro vs as cs ha hc z
            unfold argSls at ha
            cases er : argSl Γ1 r with
            | none => rw [er] at ha; cases ha
            | some s0 =>
              cases es : argSls Γ1 rs with
              | none => rw [er, es] at ha; cases ha
              | some ss =>
                rw [er, es] at ha
                cases ha
                cases vs with
                | nil => cases s0 <;> cases ss <;> exact hc.elim
                | cons v vs =>
                  cases r with
                  | d x => cases er; exact ih vs ss cs es hc z
                  | o x => cases er; exact ih vs ss cs es hc z
                  | b i =>
                    cases e : Γ1[i]? with
                    | none => simp [argSl, e] at er
                    | some t =>
                      cases e2 : t.mu with
                      | none => simp [argSl, e, e2] at er
                      | some m =>
                        have : s0 = Sl.cell m := by simp [argSl, e, e2] at er; exact er.symm
                        subst this
                        cases cs with
                        | nil => exact (show False from hc).elim
                        | cons c cs => simp [putB, e] at z
        exact this rs vs as cs ea a5 ep
      | some Γ2 =>
        rw [ep] at a7
        refine k v r H' F' Γ2 (s1.trans a1) (call_back E1 rr ea few a1 a2 a3 a4 a5 ep) (rc_rr E1 (fun i s m q1 q2 => ?_) a6) a7
        rcases few_at rr ea few a5 ep with ⟨_, e⟩ | ⟨j, s', l, p, c, ws, _, b1, b2, _, b4, _⟩
        · subst e; exact ⟨s, m, q1, q2⟩
        · subst b4
          by_cases hij : j = i
          · subst hij; exact ⟨s', l, b1, b2⟩
          · rw [get_set_ne hij] at q1; exact ⟨s, m, q1, q2⟩
    · obtain ⟨n, hx⟩ := a1
      have hf : ∀ a o, B.H0 a = some o → F' a = F1 a := fun a o h => by
        cases q : H1 a with
        | some u => exact a5 a u q
        | none => rw [E1.old q] at h; cases h
      have sH : Same H1 H' := fun a o h => a4 a o h fun j z => by
        obtain ⟨i, b1, _⟩ := pinC_some z
        exact noB_at n b1
      exact kx x cls dd H' F' Γ1 hx (s1.trans a2) (E1.grow sH a2 a3 (fun i s l q h1 h2 h3 => by
        obtain ⟨c1, ws, c2, _⟩ := E1.muH h1 h2 h3
        rw [a5 q _ c2]; exact c1) hf) a6
end
section
variable {X : Cx} {W : WX} {p pos : Pos} {x : Str} {e : Expr} {es : List Expr} {wa : WA} {k n : Nat} {fs : FS}
theorem de_call (tk : Takes X W) (c : Ca X.prog X.w X.K X.mg X.base x k fs) (hr : Room n X.A) (hk : k ≤ n) (ha : DA X W (e :: es) wa) (hg : Gl X x := by rfl) (hdb : (x == ("__debug__" : Str)) = false := by decide)
    (he : starEach (e :: es) X.env = (false, eval e X.env) :: starEach es X.env := by rfl) (hpl : (backTo pos (starEach es X.env)).any (·.1) = false := by rfl) : DE X W (.Call (.Name x p) (e :: es) [] pos) (wCall fs wa) := by
  obtain ⟨f, fd, ps, h1, h2, h3, h4⟩ := c.ex
  exact de_of (pe_callS (E := L2.WE W) h1 (hr.mono hk) hg h2 h3 h4 (passAt tk) ha.pa hdb he hpl) fun _ _ _ h => lift_call h
theorem de_call0 (tk : Takes X W) (c : Ca X.prog X.w X.K X.mg X.base x k fs) (hr : Room n X.A) (hk : k ≤ n) (hg : Gl X x := by rfl) (hdb : (x == ("__debug__" : Str)) = false := by decide) :
    DE X W (.Call (.Name x p) [] [] pos) (wCall fs wNil) := by
  obtain ⟨f, fd, ps, h1, h2, h3, h4⟩ := c.ex
  have h0 : PE X (.Call (.Name x p) [] [] pos) (tCallS (spOf X.K X.mg fs) (L2.WE W) tNil) := by
    refine ⟨fun pins s σ H Q I h => ?_⟩
    refine wpAny_Call_Name_kw (ld_glob I hg h2 ?_ hdb)
    exact PySem.W.callWith_K0 I.kIn h3 (run_fnS (us := []) h1 (hr.mono hk) h4 (passAt tk σ) I .nil h)
  refine de_of h0 fun σ H Kn h => ?_
  obtain ⟨B, F, Γ, Q, Xq, E, hw, k, kx⟩ := lift_call h
  exact k [] [] H F Γ (Same.id F) E rfl hw
end
end DL

namespace DL
open PySem L2
/-! ### targets -/
inductive Tg where
  | n (i : Nat) | t (is : List Nat)
def gsOf : List Nat → TGs
  | [] => gNil
  | i :: is => gCons (gName i) (gsOf is)
def gOf (K : PySem.W.Frag) : Tg → TG
  | .n i => gName i
  | .t is => fun v σ H Q => gTup K is.length (gsOf is) v σ H Q ∨ gUnl K is.length (gsOf is) v σ H Q
def Tg.slots : Tg → List Nat
  | .n i => [i]
  | .t is => is
def stOk (Γ : G) (i : Nat) : Prop := match Γ[i]? with
  | some (.cell _) => False
  | some _ => True
  | none => False
def stOks (Γ : G) : List Nat → Prop
  | [] => True
  | i :: is => stOk Γ i ∧ stOks Γ is
def setAll : G → List Nat → List PyData → G
  | Γ, i :: is, d :: ds => setAll (Γ.set i (.v d)) is ds
  | Γ, _, _ => Γ
def setV : St → List Nat → List V → St
  | σ, i :: is, v :: vs => setV (σ.set i (some v)) is vs
  | σ, _, _ => σ
def wG : Tg → PyData → G → (G → Prop) → Prop
  | .n i, d, Γ, Q => stOk Γ i ∧ Q (Γ.set i (.v d))
  | .t is, .tuple l, Γ, Q => l.length = is.length ∧ stOks Γ is ∧ Q (setAll Γ is l)
  | .t is, .list l, Γ, Q => l.length = is.length ∧ stOks Γ is ∧ Q (setAll Γ is l)
  | .t _, _, _, _ => False
section
variable {K : PySem.W.Frag} {mg : Str → Option Value} {W : WX} {B : Bs} {F F' H H' : Hp} {σ : St} {Γ : G}
def R.sl : R → Sl
  | .d x => .v x
  | .o l => .own l
  | .b _ => .no
theorem stOk_lt {i : Nat} (h : stOk Γ i) : i < Γ.length ∧ ∀ l, Γ[i]? ≠ some (Sl.cell l) := by
  unfold stOk at h
  cases e : Γ[i]? with
  | none => rw [e] at h; exact h.elim
  | some s =>
    rw [e] at h
    refine ⟨lt_of_get e, fun l z => ?_⟩
    cases z
    exact h.elim
theorem EnvR.store (E : EnvR K B F H σ Γ) {i : Nat} {v : V} {r : R} (h : stOk Γ i) (hr : RR K B F H σ Γ v r) (hb : ∀ j, r ≠ .b j) : EnvR K B F H (σ.set i (some v)) (Γ.set i r.sl) := by
  obtain ⟨hl, hc⟩ := stOk_lt h
  have hlσ : i < σ.length := by rw [E.len]; exact hl
  have sself : (σ.set i (some v))[i]? = some (some v) := by simp [hlσ]
  have sne : ∀ {j : Nat}, i ≠ j → (σ.set i (some v))[j]? = σ[j]? := fun {j} h => List.getElem?_set_ne h
  refine ⟨E.ex, by rw [List.length_set, List.length_set]; exact E.len, fun j d hj => ?_, fun j s m hj hm => ?_, fun j q hq => ?_, fun j m hj => ?_, fun j k s t m n q hj hk hm hn e1 e2 => ?_, E.keep, E.frz⟩
  · by_cases hij : i = j
    · subst hij
      rw [get_set_self hl] at hj
      cases r with
      | d x => cases hj; exact ⟨v, sself, hr⟩
      | o l => cases hj
      | b k => cases hj
    · rw [get_set_ne hij] at hj
      rw [sne hij]
      exact E.val j d hj
  · by_cases hij : i = j
    · subst hij
      rw [get_set_self hl] at hj
      cases r with
      | d x => cases hj; cases hm
      | o l =>
        cases hj
        cases hm
        obtain ⟨p, vs, e, h1, h2, h3, h4, _⟩ := hr
        exact ⟨p, vs, by rw [sself, e], h1, h2, h3, fun _ => h4⟩
      | b k => cases hj; cases hm
    · rw [get_set_ne hij] at hj
      rw [sne hij]
      exact E.mu j s m hj hm
  · obtain ⟨m, q1, q2⟩ := E.pin j q hq
    have hij : i ≠ j := fun z => by subst z; exact hc m q1
    exact ⟨m, by rw [get_set_ne hij]; exact q1, by rw [sne hij]; exact q2⟩
  · by_cases hij : i = j
    · subst hij
      rw [get_set_self hl] at hj
      cases r <;> cases hj
    · rw [get_set_ne hij] at hj; exact E.cel j m hj
  · have new : ∀ {j k : Nat} {s t : Sl} {m n : List PyData}, (Γ.set i r.sl)[j]? = some s → s.mu = some m → (σ.set i (some v))[j]? = some (some (V.ref q)) → i = j → i ≠ k → (Γ.set i r.sl)[k]? = some t → t.mu = some n → (σ.set i (some v))[k]? = some (some (V.ref q)) → False := fun {j' k' s' t' m' n'} ij im i1 iij iik ik iN i2 => by
      subst iij
      rw [get_set_self hl] at ij
      rw [get_set_ne iik] at ik
      rw [sne iik] at i2
      rw [sself] at i1
      clear hj hk
      cases r with
      | d x => cases ij; cases im
      | b x => cases ij; cases im
      | o l =>
        obtain ⟨p, vs, e, _, _, _, _, h5⟩ := hr
        rw [e] at i1
        cases i1
        exact h5 k' t' n' ik iN i2
    by_cases hij : i = j
    · by_cases hik : i = k
      · rw [← hij, ← hik]
      · exact (new hj hm e1 hij hik hk hn e2).elim
    · by_cases hik : i = k
      · exact (new hk hn e2 hik hij hj hm e1).elim
      · rw [get_set_ne hij] at hj
        rw [get_set_ne hik] at hk
        rw [sne hij] at e1
        rw [sne hik] at e2
        exact E.apart j k s t m n q hj hk hm hn e1 e2
theorem stOk_set {i j : Nat} {d : PyData} (h : stOk Γ j) : stOk (Γ.set i (.v d)) j := by
  by_cases hij : i = j
  · subst hij
    unfold stOk
    rw [get_set_self (stOk_lt h).1]
    trivial
  · unfold stOk
    rw [get_set_ne hij]
    exact h
theorem stOks_set {i : Nat} {d : PyData} : ∀ {is : List Nat}, stOks Γ is → stOks (Γ.set i (.v d)) is
  | [], _ => trivial
  | _ :: is, h => ⟨stOk_set h.1, stOks_set h.2⟩
theorem EnvR.stores : ∀ {is : List Nat} {ds : List PyData} {vs : List V} {σ : St} {Γ : G}, EnvR K B F H σ Γ → stOks Γ is → Reps K F vs ds → EnvR K B F H (setV σ is vs) (setAll Γ is ds)
  | [], ds, vs, σ, Γ, E, _, _ => by
    have e1 : setV σ [] vs = σ := rfl
    have e2 : setAll Γ [] ds = Γ := rfl
    rw [e1, e2]; exact E
  | i :: is, [], vs, σ, Γ, E, _, h => by rw [show vs = [] from h]; exact E
  | i :: is, d :: ds, vs, σ, Γ, E, hs, ⟨v, r, e, h1, h2⟩ => by
    subst e
    exact EnvR.stores (is := is) (E.store (r := .d d) hs.1 h1 fun _ z => nomatch z) (stOks_set hs.2) h2
theorem gs_go : ∀ {is : List Nat} {vs : List V} {σ : St} {Kn : St → Hp → Prop}, vs.length = is.length → Kn (setV σ is vs) H → gsOf is vs σ H Kn
  | [], vs, σ, Kn, hl, h => by
    cases vs with
    | nil => exact ⟨rfl, h⟩
    | cons v vs => cases hl
  | i :: is, vs, σ, Kn, hl, h => by
    cases vs with
    | nil => cases hl
    | cons v vs => exact ⟨v, vs, rfl, gs_go (by simpa using hl) h⟩
/-- a target takes a value -/
theorem g_go (E : EnvR K B F H σ Γ) {t : Tg} {v : V} {d : PyData} {Q : G → Prop} {Kn : St → Hp → Prop} (h : Rep K F v d) (hw : wG t d Γ Q)
    (k : ∀ σ' Γ', EnvR K B F H σ' Γ' → (∀ vs, (∀ i ∈ t.slots, i ∈ vs) → wipe σ' vs = wipe σ vs) → Q Γ' → Kn σ' H) : gOf K t v σ H Kn := by
  have ws : ∀ (i : Nat) (x : Option V) (vs : List Nat) (σ : St), i ∈ vs → wipe (σ.set i x) vs = wipe σ vs := by
    intro i x vs
    induction vs with
    | nil => intro σ h; cases h
    | cons j vs ih =>
      intro σ h
      show (wipe (σ.set i x) vs).set j none = (wipe σ vs).set j none
      by_cases e : i = j
      · subst e
        by_cases hm : i ∈ vs
        · rw [ih σ hm]
        · have : ∀ (vs : List Nat) (σ : St), i ∉ vs → wipe (σ.set i x) vs = (wipe σ vs).set i x := by
            intro vs
            induction vs with
            | nil => intro σ _; rfl
            | cons k vs ih2 =>
              intro σ h
              show (wipe (σ.set i x) vs).set k none = ((wipe σ vs).set k none).set i x
              rw [ih2 σ (fun z => h (List.mem_cons_of_mem _ z)), List.set_comm _ _ (fun z => h (by rw [z]; exact List.mem_cons_self))]
          rw [this vs σ hm, List.set_set]
      · have hm : i ∈ vs := by
          rcases List.mem_cons.mp h with z | z
          · exact absurd z e
          · exact z
        rw [ih σ hm]
  cases t with
  | n i =>
    refine k _ _ (E.store (r := .d d) hw.1 h fun _ z => nomatch z) (fun vs hv => ws i _ vs σ (hv i (List.mem_singleton.mpr rfl))) hw.2
  | t is =>
    cases d with
    | tuple l =>
      obtain ⟨h1, h2, h3⟩ := hw
      obtain ⟨a, vs, e, hq, hr⟩ := h
      have hl : vs.length = is.length := by rw [hr.len, h1]
      refine .inl ⟨a, vs, e, sqt_mono E.ex hq, hl, gs_go hl (k _ _ (E.stores h2 hr) (fun us hv => ?_) h3)⟩
      have : ∀ (is : List Nat) (vs : List V) (σ : St), (∀ i ∈ is, i ∈ us) → wipe (setV σ is vs) us = wipe σ us := by
        intro is
        induction is with
        | nil => intro vs σ _; cases vs <;> rfl
        | cons i is ih =>
          intro vs σ h
          cases vs with
          | nil => rfl
          | cons v vs =>
            show wipe (setV (σ.set i (some v)) is vs) us = _
            rw [ih vs _ (fun j hj => h j (List.mem_cons_of_mem _ hj)), ws i _ us σ (h i List.mem_cons_self)]
      exact this is vs σ hv
    | list l =>
      obtain ⟨h1, h2, h3⟩ := hw
      obtain ⟨a, vs, e, hq, hr⟩ := h
      have hl : vs.length = is.length := by rw [hr.len, h1]
      refine .inr ⟨a, vs, e, sql_mono E.ex hq, hl, gs_go hl (k _ _ (E.stores h2 hr) (fun us hv => ?_) h3)⟩
      have : ∀ (is : List Nat) (vs : List V) (σ : St), (∀ i ∈ is, i ∈ us) → wipe (setV σ is vs) us = wipe σ us := by
        intro is
        induction is with
        | nil => intro vs σ _; cases vs <;> rfl
        | cons i is ih =>
          intro vs σ h
          cases vs with
          | nil => rfl
          | cons v vs =>
            show wipe (setV (σ.set i (some v)) is vs) us = _
            rw [ih vs _ (fun j hj => h j (List.mem_cons_of_mem _ hj)), ws i _ us σ (h i List.mem_cons_self)]
      exact this is vs σ hv
    | _ => exact (show False from hw).elim
end
/-! ### statements -/
structure Pst where
  nx : G → Prop
  rt : R → G → Prop
  bk : G → Prop
  ct : G → Prop
  xc : XQ
abbrev WS := G → Pst → Prop
structure SOk (K : PySem.W.Frag) (mg : Str → Option Value) (B : Bs) (F : Hp) (W : WX) (P : Pst) (D : Ends) : Prop where
  nx : ∀ σ' H' F' Γ', Same F F' → EnvR K B F' H' σ' Γ' → P.nx Γ' → D.nx σ' H'
  rt : ∀ v r σ' H' F' Γ', Same F F' → EnvR K B F' H' σ' Γ' → RR K B F' H' σ' Γ' v r → P.rt r Γ' → D.rt v H'
  bk : ∀ σ' H' F' Γ', Same F F' → EnvR K B F' H' σ' Γ' → P.bk Γ' → D.bk σ' H'
  ct : ∀ σ' H' F' Γ', Same F F' → EnvR K B F' H' σ' Γ' → P.ct Γ' → D.ct σ' H'
  xc : ∀ σ', XOk K mg B F W σ' P.xc
theorem SOk.mono {K : PySem.W.Frag} {mg : Str → Option Value} {B : Bs} {F F' : Hp} {W : WX} {P : Pst} {D : Ends} (h : SOk K mg B F W P D) (e : Same F F') : SOk K mg B F' W P D :=
  ⟨fun _ _ _ _ s => h.nx _ _ _ _ (e.trans s), fun _ _ _ _ _ _ s => h.rt _ _ _ _ _ _ (e.trans s), fun _ _ _ _ s => h.bk _ _ _ _ (e.trans s), fun _ _ _ _ s => h.ct _ _ _ _ (e.trans s), fun σ' => (h.xc σ').mono e⟩
def liftS (K : PySem.W.Frag) (mg : Str → Option Value) (W : WX) (w : WS) : TS := fun D σ H => ∃ B F Γ P, EnvR K B F H σ Γ ∧ w Γ P ∧ SOk K mg B F W P D
structure DS (X : Cx) (W : WX) (st : Stmt) (w : WS) : Prop where
  ps : PS X st (liftS X.K X.mg W w)
structure DSs (X : Cx) (W : WX) (st : List Stmt) (w : WS) : Prop where
  pss : PSs X st (liftS X.K X.mg W w)
theorem _root_.L2.PS.imp {X : Cx} {st : Stmt} {t t' : TS} (h : PS X st t) (k : ∀ D σ H, t' D σ H → t D σ H) : PS X st t' := ⟨fun pins s σ H D I q => h.run pins s σ H D I (k D σ H q)⟩
theorem _root_.L2.PSs.imp {X : Cx} {st : List Stmt} {t t' : TS} (h : PSs X st t) (k : ∀ D σ H, t' D σ H → t D σ H) : PSs X st t' := ⟨fun pins s σ H D I q => h.run pins s σ H D I (k D σ H q)⟩
def wNext : WS := fun Γ P => P.nx Γ
def wSeq (a b : WS) : WS := fun Γ P => a Γ { P with nx := fun Γ' => b Γ' P }
def wBreak : WS := fun Γ P => P.bk Γ
def wCont : WS := fun Γ P => P.ct Γ
def wExpr (w : WE) : WS := fun Γ P => w Γ (fun _ Γ' => P.nx Γ') P.xc
def wRet (w : WE) : WS := fun Γ P => w Γ P.rt P.xc
def wRetN : WS := fun Γ P => P.rt (.d .none) Γ
def wIfS (t : WT) (a b : WS) : WS := fun Γ P => t Γ (fun c Γ1 => if c = true then a Γ1 P else b Γ1 P) P.xc
def wNever : WS := fun _ _ => False
def wSet (w : WE) (i : Nat) : WS := fun Γ P => w Γ (fun r Γ1 => stOk Γ1 i ∧ match r with
  | .d x => P.nx (Γ1.set i (.v x))
  | .o l => P.nx (Γ1.set i (.own l))
  | .b _ => False) P.xc
def wAsg (w : WE) (t : Tg) : WS := fun Γ P => w Γ (fun r Γ1 => match r with
  | .d x => wG t x Γ1 P.nx
  | _ => False) P.xc
def wPar (i j : Nat) (wa : WA) : WS := fun Γ P => wa Γ (fun rs Γ1 => match rdF rs with
  | some [x, y] => stOk Γ1 i ∧ stOk Γ1 j ∧ P.nx ((Γ1.set i (.v x)).set j (.v y))
  | _ => False) P.xc
section
variable {X : Cx} {W : WX} {pos : Pos} {e : Expr} {st : Stmt} {rest a b : List Stmt} {w : WE} {wa : WA} {t : WT} {u u' : WS}
theorem ds_of {t : TS} {w : WS} (h : PS X st t) (k : ∀ D σ H, liftS X.K X.mg W w D σ H → t D σ H) : DS X W st w := ⟨h.imp k⟩
theorem dss_nil : DSs X W [] wNext := ⟨pss_nil.imp fun D σ H ⟨B, F, Γ, P, E, hw, k⟩ => k.nx σ H F Γ (Same.id F) E hw⟩
theorem dss_cons (h1 : DS X W st u) (h2 : DSs X W rest u') : DSs X W (st :: rest) (wSeq u u') := ⟨(pss_cons h1.ps h2.pss).imp fun D σ H ⟨B, F, Γ, P, E, hw, k⟩ =>
  ⟨B, F, Γ, { P with nx := fun Γ' => u' Γ' P }, E, hw, fun σ' H' F' Γ' s E' q => ⟨B, F', Γ', P, E', q, k.mono s⟩, k.rt, k.bk, k.ct, k.xc⟩⟩
theorem dss_one (h1 : DS X W st u) : DSs X W [st] u := ⟨pss_one h1.ps⟩
theorem ds_pass : DS X W (.Pass pos) wNext := ds_of ps_pass fun D σ H ⟨B, F, Γ, P, E, hw, k⟩ => k.nx σ H F Γ (Same.id F) E hw
theorem ds_break : DS X W (.Break pos) wBreak := ds_of ps_break fun D σ H ⟨B, F, Γ, P, E, hw, k⟩ => k.bk σ H F Γ (Same.id F) E hw
theorem ds_continue : DS X W (.Continue pos) wCont := ds_of ps_continue fun D σ H ⟨B, F, Γ, P, E, hw, k⟩ => k.ct σ H F Γ (Same.id F) E hw
theorem ds_expr (he : DE X W e w) (hs : swapsWith e none pos.line X.env = pure false := by rfl) : DS X W (.Expr e pos) (wExpr w) := ds_of (ps_expr he.pe hs) fun D σ H ⟨B, F, Γ, P, E, hw, k⟩ =>
  ⟨B, F, Γ, _, P.xc, E, hw, fun v r H' F' Γ' s E' _ q => k.nx σ H' F' Γ' s E' q, k.xc σ⟩
theorem ds_ret (he : DE X W e w) : DS X W (.Return (some e) pos) (wRet w) := ds_of (ps_ret he.pe) fun D σ H ⟨B, F, Γ, P, E, hw, k⟩ =>
  ⟨B, F, Γ, _, P.xc, E, hw, fun v r H' F' Γ' s E' rr q => k.rt v r σ H' F' Γ' s E' rr q, k.xc σ⟩
theorem ds_retN : DS X W (.Return none pos) wRetN := ds_of ps_retN fun D σ H ⟨B, F, Γ, P, E, hw, k⟩ => k.rt .non (.d .none) σ H F Γ (Same.id F) E rfl hw
theorem ds_if {c : Expr} (hc : DT X W c t) (ha : DSs X W a u) (hb : DSs X W b u') : DS X W (.If c a b pos) (wIfS t u u') := ds_of (ps_if hc.pt ha.pss hb.pss) fun D σ H ⟨B, F, Γ, P, E, hw, k⟩ =>
  ⟨B, F, Γ, _, P.xc, E, hw, fun d H' F' Γ' s E' q => by
    cases d with
    | true => exact ⟨B, F', Γ', P, E', q, k.mono s⟩
    | false => exact ⟨B, F', Γ', P, E', q, k.mono s⟩, k.xc σ⟩
theorem ds_never : DS X W st wNever := ds_of (t := tNever) ps_never fun D σ H ⟨_, _, _, _, _, hw, _⟩ => hw
theorem dss_never : DSs X W rest wNever := ⟨pss_never.imp fun D σ H ⟨_, _, _, _, _, hw, _⟩ => hw⟩
theorem set_go {K : PySem.W.Frag} {mg : Str → Option Value} {D : Ends} {σ : St} {H : Hp} {i : Nat} (h : liftS K mg W (wSet w i) D σ H) : liftE K mg W w σ H fun x H1 => gName i x σ H1 D.nx := by
  obtain ⟨B, F, Γ, P, E, hw, k⟩ := h
  refine ⟨B, F, Γ, _, P.xc, E, hw, fun v r H' F' Γ' s E' rr q => ?_, k.xc σ⟩
  obtain ⟨q1, q2⟩ := q
  cases r with
  | d x => exact k.nx _ H' F' _ s (E'.store q1 rr fun _ z => nomatch z) q2
  | o l => exact k.nx _ H' F' _ s (E'.store q1 rr fun _ z => nomatch z) q2
  | b j => exact q2.elim
theorem ds_set {i : Nat} {x : Str} {pos' : Pos} (he : DE X W e w) (hN : X.N.Nodup) (hi : X.N[i]? = some x := by rfl) (hx : Loc X.env.scope x := by first | exact .inl rfl | exact .inr rfl) (hs : swapsWith e (some (.Name x pos')) pos.line X.env = pure false := by rfl)
    (hf : X.fn x = true ∨ X.env.scope.names.lookup x = some .local := by first | exact .inl rfl | exact .inr rfl | assumption) : DS X W (.Assign [.Name x pos'] e pos) (wSet w i) :=
  ds_of (ps_set hN hi hx he.pe hs hf) fun D σ H h => set_go h
theorem ds_asg {tg : Expr} {tt : Tg} (he : DE X W e w) (hg : PG X tg (gOf X.K tt)) (hs : swapsWithSole [tg] e pos.line X.env = pure false := by rfl) (hw : swappedStores [tg] e X.env = pure none := by rfl)
    (h1 : (assignEach [tg] X.env).map (·.2) = [assign tg X.env] := by rfl) : DS X W (.Assign [tg] e pos) (wAsg w tt) :=
  ds_of (ps_asg he.pe hg hs hw h1) fun D σ H ⟨B, F, Γ, P, E, hw, k⟩ => ⟨B, F, Γ, _, P.xc, E, hw, fun v r H' F' Γ' s E' rr q => by
    cases r with
    | d x => exact g_go E' rr q fun σ' Γ'' E'' _ q => k.nx σ' H' F' Γ'' s E'' q
    | o l => exact (show False from q).elim
    | b j => exact (show False from q).elim, k.xc σ⟩
theorem ds_par {i j : Nat} {x y : Str} {a b : Expr} {px py pt : Pos} {kt k2 pt2} (ha : DA X W [a, b] wa) (hc : X.calm = true) (hN : X.N.Nodup) (hi : X.N[i]? = some x := by rfl) (hj : X.N[j]? = some y := by rfl) (hij : i ≠ j := by decide)
    (hx : X.env.scope.names.lookup x = some .local := by rfl) (hy : X.env.scope.names.lookup y = some .local := by rfl)
    (hw : swappedStores [.Tuple [.Name x px, .Name y py] kt pt] (.Tuple [a, b] k2 pt2) X.env = pure (some [x, y]) := by rfl)
    (hs : swapsWithSole [.Tuple [.Name x px, .Name y py] kt pt] (.Tuple [a, b] k2 pt2) pos.line X.env = pure false := by rfl) :
    DS X W (.Assign [.Tuple [.Name x px, .Name y py] kt pt] (.Tuple [a, b] k2 pt2) pos) (wPar i j wa) :=
  ds_of (ps_par hc hN hi hj hij hx hy ha.pa hw hs) fun D σ H ⟨B, F, Γ, P, E, hw, k⟩ => ⟨B, F, Γ, _, P.xc, E, hw, fun vs rs H' F' Γ' s E' rr q => by
    have q' : match rdF rs with
      | some [x, y] => stOk Γ' i ∧ stOk Γ' j ∧ P.nx ((Γ'.set i (.v x)).set j (.v y))
      | _ => False := q
    cases ex : rdF rs with
    | none => rw [ex] at q'; exact q'.elim
    | some xs =>
      rw [ex] at q'
      match xs, ex, q' with
      | [x, y], ex, ⟨q1, q2, q3⟩ =>
        obtain ⟨v, r1, e1, h1, w', r2, e2, h2, e3⟩ := rr.reps ex
        subst e3; subst e2; subst e1
        exact ⟨v, w', rfl, k.nx _ H' F' _ s ((E'.store (r := .d x) q1 h1 fun _ z => nomatch z).store (r := .d y) (stOk_set q2) h2 fun _ z => nomatch z) q3⟩, k.xc σ⟩
end
section
variable {X : Cx} {W : WX} {pos : Pos}
theorem pg_n {i : Nat} {x : Str} (hN : X.N.Nodup) (hi : X.N[i]? = some x := by rfl) (hx : Loc X.env.scope x := by first | exact .inl rfl | exact .inr rfl) (hf : X.fn x = true ∨ X.env.scope.names.lookup x = some .local := by first | exact .inl rfl | exact .inr rfl | assumption) : PG X (.Name x pos) (gOf X.K (.n i)) :=
  pg_name hN hi hx hf
theorem pgs_0 : PGs X [] (gsOf []) := pgs_nil
theorem pgs_1 {i : Nat} {x : Str} {is : List Nat} {es : List Expr} (hN : X.N.Nodup) (h2 : PGs X es (gsOf is)) (hi : X.N[i]? = some x := by rfl) (hx : Loc X.env.scope x := by first | exact .inl rfl | exact .inr rfl) (hf : X.fn x = true ∨ X.env.scope.names.lookup x = some .local := by first | exact .inl rfl | exact .inr rfl | assumption)
    (hs : (assignEach (.Name x pos :: es) X.env).map (·.2) = assign (.Name x pos) X.env :: (assignEach es X.env).map (·.2) := by rfl) : PGs X (.Name x pos :: es) (gsOf (i :: is)) := pgs_cons (pg_name hN hi hx hf) h2 hs
theorem pg_t {es : List Expr} {k : Nat} {is : List Nat} (hc : X.calm = true) (h : PGs X es (gsOf is)) (hn : (assignEach es X.env).length = is.length := by rfl) (hst : (assignEach es X.env).findIdx? (·.1) = none := by rfl) : PG X (.Tuple es k pos) (gOf X.K (.t is)) :=
  ⟨fun pins s σ H v u Q I r hw => hw.elim (fun q => (pg_tup hc h hn hst).run pins s σ H v u Q I r q) fun q => (pg_unl hc h hn hst).run pins s σ H v u Q I r q⟩
end
end DL

namespace DL
open PySem L2
/-! ### the base set anew -/
section
variable {K : PySem.W.Frag} {mg : Str → Option Value} {W : WX} {B B' : Bs} {F F' F2 H H' H2 : Hp} {σ σ' : St} {Γ Γ' : G}
def OwnAt (σ : St) (Γ : G) (a : Addr) : Prop := ∃ (i : Nat) (l : List PyData), Γ[i]? = some (Sl.own l) ∧ σ[i]? = some (some (V.ref a))
def MutAt (σ : St) (Γ : G) (a : Addr) : Prop := ∃ (i : Nat) (s : Sl) (l : List PyData), Γ[i]? = some s ∧ s.mu = some l ∧ σ[i]? = some (some (V.ref a))
open Classical in
noncomputable def reB (B : Bs) (F H : Hp) (σ : St) (Γ : G) : Bs := ⟨fun a => if OwnAt σ Γ a then none else H a, F, B.pin⟩
open Classical in
theorem reB_own (B : Bs) (F H : Hp) {σ : St} {Γ : G} {a : Addr} (h : OwnAt σ Γ a) : (reB B F H σ Γ).H0 a = none := by
  show (if _ then _ else _) = _
  rw [if_pos h]
open Classical in
theorem reB_not (B : Bs) (F H : Hp) {σ : St} {Γ : G} {a : Addr} (h : ¬ OwnAt σ Γ a) : (reB B F H σ Γ).H0 a = H a := by
  show (if _ then _ else _) = _
  rw [if_neg h]
theorem reB_some {B : Bs} {F H : Hp} {σ : St} {Γ : G} {a : Addr} {o : HO} (h : (reB B F H σ Γ).H0 a = some o) : H a = some o ∧ ¬ OwnAt σ Γ a := by
  by_cases q : OwnAt σ Γ a
  · rw [reB_own B F H q] at h; cases h
  · rw [reB_not B F H q] at h; exact ⟨h, q⟩
theorem EnvR.rebase (E : EnvR K B F H σ Γ) : EnvR K (reB B F H σ Γ) F H σ Γ where
  ex := E.ex
  len := E.len
  val := E.val
  mu := fun i s l h h' => by
    obtain ⟨p, vs, h1, h2, h3, h4, h5⟩ := E.mu i s l h h'
    exact ⟨p, vs, h1, h2, h3, h4, fun e => reB_own B F H ⟨i, l, by rw [← e]; exact h, h1⟩⟩
  pin := E.pin
  cel := E.cel
  apart := E.apart
  keep := fun a o h _ => (reB_some h).1
  frz := fun _ _ _ => rfl
theorem EnvR.unbase (E : EnvR K B F H σ Γ) (E' : EnvR K (reB B F H σ Γ) F' H' σ' Γ') : EnvR K B F' H' σ' Γ' where
  ex := E'.ex
  len := E'.len
  val := E'.val
  mu := fun i s l h h' => by
    obtain ⟨p, vs, h1, h2, h3, h4, h5⟩ := E'.mu i s l h h'
    refine ⟨p, vs, h1, h2, h3, h4, fun e => ?_⟩
    have q := h5 e
    by_cases ho : OwnAt σ Γ p
    · obtain ⟨j, m, a1, a2⟩ := ho
      obtain ⟨p', _, b1, _, _, _, b5⟩ := E.mu j _ m a1 rfl
      rw [a2] at b1
      cases b1
      exact b5 rfl
    · rw [reB_not B F H ho] at q
      exact E.old q
  pin := E'.pin
  cel := E'.cel
  apart := E'.apart
  keep := fun a o h hp => by
    have h1 := E.keep a o h hp
    refine E'.keep a o ?_ hp
    rw [reB_not]
    · exact h1
    · rintro ⟨j, m, a1, a2⟩
      obtain ⟨p', _, b1, _, _, _, b5⟩ := E.mu j _ m a1 rfl
      rw [a2] at b1
      cases b1
      rw [b5 rfl] at h; cases h
  frz := fun a o h => by
    rw [← E.frz a o h]
    have no : ¬ OwnAt σ Γ a := by
      rintro ⟨j, m, a1, a2⟩
      obtain ⟨p', _, b1, _, _, _, b5⟩ := E.mu j _ m a1 rfl
      rw [a2] at b1
      cases b1
      rw [b5 rfl] at h; cases h
    have : ∃ u, H a = some u := by
      by_cases hp : ∃ i, B.pin i = some a
      · obtain ⟨i, hi⟩ := hp
        obtain ⟨l', h1, h2⟩ := E.pin i a hi
        obtain ⟨_, ws, h3, _⟩ := E.muH h1 rfl h2
        exact ⟨_, h3⟩
      · exact ⟨o, E.keep a o h fun i hi => hp ⟨i, hi⟩⟩
    obtain ⟨u, hu⟩ := this
    exact E'.frz a u (by rw [reB_not B F H no]; exact hu)
/-- what is nobody's slot stands through it all -/
theorem EnvR.stay (E : EnvR K B F H σ Γ) (E' : EnvR K (reB B F H σ Γ) F' H' σ' Γ') {a : Addr} {o : HO} (h : H a = some o) (hm : ¬ MutAt σ Γ a) : H' a = some o ∧ F' a = F a ∧ ¬ MutAt σ' Γ' a := by
  have no : ¬ OwnAt σ Γ a := fun ⟨i, l, a1, a2⟩ => hm ⟨i, _, l, a1, rfl, a2⟩
  have hH : (reB B F H σ Γ).H0 a = some o := by rw [reB_not B F H no]; exact h
  have np : ∀ i, B.pin i ≠ some a := fun i hi => by
    obtain ⟨l, a1, a2⟩ := E.pin i a hi
    exact hm ⟨i, _, l, a1, rfl, a2⟩
  refine ⟨E'.keep a o hH np, E'.frz a o hH, fun ⟨i, s, l, a1, a2, a3⟩ => ?_⟩
  obtain ⟨p, vs, h1, h2, h3, h4, h5⟩ := E'.mu i s l a1 a2
  rw [a3] at h1
  cases h1
  cases s with
  | no => cases a2
  | v _ => cases a2
  | own m => rw [h5 (by cases a2; rfl)] at hH; cases hH
  | cell m =>
    obtain ⟨q, hq⟩ := E'.cel i m a1
    obtain ⟨_, _, c2⟩ := E'.pin i q hq
    rw [a3] at c2
    cases c2
    exact np i hq
/-- a thing beside is written -/
theorem EnvR.poke (E : EnvR K B F H σ Γ) {a : Addr} {o : HO} (h0 : B.H0 a = none) (hF : F a = none) (hm : ¬ MutAt σ Γ a) : EnvR K B F (upd H a o) σ Γ where
  ex := fun b u q => by rw [upd_ne (ne_of_none q hF)]; exact E.ex b u q
  len := E.len
  val := E.val
  mu := fun i s l h h' => by
    obtain ⟨p, vs, h1, h2, h3, h4, h5⟩ := E.mu i s l h h'
    have : p ≠ a := fun z => hm ⟨i, s, l, h, h', by rw [h1, z]⟩
    exact ⟨p, vs, h1, h2, by rw [upd_ne this]; exact h3, h4, h5⟩
  pin := E.pin
  cel := E.cel
  apart := E.apart
  keep := fun b u h hp => by rw [upd_ne (ne_of_none h h0)]; exact E.keep b u h hp
  frz := E.frz
/-- a slot is set to what is told of it -/
theorem EnvR.putSl (E : EnvR K B F H σ Γ) {i : Nat} {x : Option V} {s : Sl} (hp : B.pin i = none) (hs : s = Sl.no ∨ ∃ d v, s = Sl.v d ∧ x = some v ∧ Rep K F v d) : EnvR K B F H (σ.set i x) (Γ.set i s) := by
  by_cases hl : i < Γ.length
  · have hlσ : i < σ.length := by rw [E.len]; exact hl
    have sself : (σ.set i x)[i]? = some x := by simp [hlσ]
    have sne : ∀ {j : Nat}, i ≠ j → (σ.set i x)[j]? = σ[j]? := fun {j} h => List.getElem?_set_ne h
    have nm : ∀ {m : List PyData}, s.mu ≠ some m := fun {m} z => by
      rcases hs with e | ⟨d, v, e, _⟩ <;> rw [e] at z <;> cases z
    have nc : ∀ {m : List PyData}, s ≠ Sl.cell m := fun {m} z => nm (m := m) (by rw [z]; rfl)
    refine ⟨E.ex, by rw [List.length_set, List.length_set]; exact E.len, fun j d hj => ?_, fun j t m hj hm => ?_, fun j q hq => ?_, fun j m hj => ?_, fun j k t u m n q hj hk hm hn e1 e2 => ?_, E.keep, E.frz⟩
    · by_cases hij : i = j
      · subst hij
        rw [get_set_self hl] at hj
        rcases hs with e | ⟨d', v, e, ex, hr⟩
        · rw [e] at hj; cases hj
        · rw [e] at hj; cases hj; exact ⟨v, by rw [sself, ex], hr⟩
      · rw [get_set_ne hij] at hj; rw [sne hij]; exact E.val j d hj
    · by_cases hij : i = j
      · subst hij
        rw [get_set_self hl] at hj
        cases hj
        exact (nm hm).elim
      · rw [get_set_ne hij] at hj; rw [sne hij]; exact E.mu j t m hj hm
    · have hij : i ≠ j := fun z => by subst z; rw [hp] at hq; cases hq
      obtain ⟨m, q1, q2⟩ := E.pin j q hq
      exact ⟨m, by rw [get_set_ne hij]; exact q1, by rw [sne hij]; exact q2⟩
    · by_cases hij : i = j
      · subst hij
        rw [get_set_self hl] at hj
        exact (nc (Option.some.inj hj)).elim
      · rw [get_set_ne hij] at hj; exact E.cel j m hj
    · have nj : i ≠ j := fun z => by subst z; rw [get_set_self hl] at hj; cases hj; exact nm hm
      have nk : i ≠ k := fun z => by subst z; rw [get_set_self hl] at hk; cases hk; exact nm hn
      rw [get_set_ne nj] at hj
      rw [get_set_ne nk] at hk
      rw [sne nj] at e1
      rw [sne nk] at e2
      exact E.apart j k t u m n q hj hk hm hn e1 e2
  · have hlσ : ¬ i < σ.length := by rw [E.len]; exact hl
    have e1 : σ.set i x = σ := by rw [List.set_eq_of_length_le (Nat.le_of_not_lt hlσ)]
    have e2 : Γ.set i s = Γ := by rw [List.set_eq_of_length_le (Nat.le_of_not_lt hl)]
    rw [e1, e2]
    exact E
end
/-! ### walks -/
structure Walks (K : PySem.W.Frag) (F : Hp) (J : It) (ds : List PyData) : Prop where
  go : ∀ (i : Nat) (H : Hp), Same F H → i < ds.length → J.go i H
  stop : ∀ H : Hp, Same F H → J.stop ds.length H
  yld : ∀ (i : Nat) (H : Hp) (x : V) (H' : Hp), Same F H → i < ds.length → J.yld i H x H' → Same H H' ∧ ∃ d : PyData, ds[i]? = some d ∧ ∀ (B : Bs) (F1 : Hp) (σ : St) (Γ : G), Same F F1 → EnvR K B F1 H σ Γ → ∃ F2, Same F1 F2 ∧ (∀ a o, H a = some o → F2 a = F1 a) ∧ EnvR K B F2 H' σ Γ ∧ Rep K F2 x d
abbrev WI := G → (List PyData → G → Prop) → XQ → Prop
def liftI (K : PySem.W.Frag) (mg : Str → Option Value) (W : WX) (wi : WI) : TI := fun σ H Rr => ∃ B F Γ Q X, EnvR K B F H σ Γ ∧ wi Γ Q X ∧
  (∀ J ds H' F' Γ', Same F F' → EnvR K B F' H' σ Γ' → Walks K F' J ds → Q ds Γ' → Rr J H') ∧ XOk K mg B F W σ X
structure DI (X : Cx) (W : WX) (tg iter : Expr) (wi : WI) : Prop where
  pi : PI X tg iter (liftI X.K X.mg W wi)
theorem _root_.L2.PI.imp {X : Cx} {tg iter : Expr} {t t' : TI} (h : PI X tg iter t) (k : ∀ σ H Q, t' σ H Q → t σ H Q) : PI X tg iter t' := ⟨fun pins s σ H Q I q => h.run pins s σ H Q I (k σ H Q q)⟩
def signs (x : Str) : List PyData := x.cps.toList.map fun c => PyData.str ⟨#[c]⟩
def items : PyData → Option (List PyData)
  | .list l => some l
  | .tuple l => some l
  | .str x => some (signs x)
  | _ => none
def wIt (w : WE) : WI := fun Γ Q X => w Γ (fun r Γ1 => match rdf r with
  | some d => match items d with
    | some l => Q l Γ1
    | none => False
  | none => False) X
where rdf : R → Option PyData
  | .d x => some x
  | .o l => some (.list l)
  | .b _ => none
def rangeL (lo : Int) (n : Nat) : List PyData := (List.range n).map fun (k : Nat) => PyData.int (lo + (k : Int))
def inR (i : Int) : Prop := -(2 ^ 62) ≤ i ∧ i < 2 ^ 62
def wRng1 (wa : WA) : WI := fun Γ Q X => wa Γ (fun rs Γ1 => ∃ n, rs = [.d (.int n)] ∧ inR n ∧ Q (rangeL 0 n.toNat) Γ1) X
def wRng2 (wa : WA) : WI := fun Γ Q X => wa Γ (fun rs Γ1 => ∃ a b, rs = [.d (.int a), .d (.int b)] ∧ inR a ∧ inR b ∧ Q (rangeL a (b - a).toNat) Γ1) X
section
variable {K : PySem.W.Frag} {F H : Hp}
theorem walks_list {a : Addr} {vs : List V} {l : List PyData} (h : SqL K F a vs) (r : Reps K F vs l) : Walks K F (Itl K a) l where
  go := fun i H s hi => by
    obtain ⟨v, h1, _⟩ := r.get (List.getElem?_eq_getElem hi)
    exact ⟨vs, v, sql_mono s h, h1⟩
  stop := fun H s => ⟨vs, sql_mono s h, by rw [r.len]; exact Nat.le_refl _⟩
  yld := fun i H x H' s hi ⟨e, y⟩ => by
    subst e
    obtain ⟨v, h1, h2⟩ := r.get (List.getElem?_eq_getElem hi)
    have hx := y vs (sql_mono s h)
    rw [h1] at hx
    cases hx
    exact ⟨Same.id _, _, List.getElem?_eq_getElem hi, fun B F1 σ Γ s1 E1 => ⟨F1, Same.id F1, fun _ _ _ => rfl, E1, Rep.mono s1 _ _ h2⟩⟩
theorem walks_tup {a : Addr} {vs : List V} {l : List PyData} (h : SqT K F a vs) (r : Reps K F vs l) : Walks K F (Itt K a) l where
  go := fun i H s hi => by
    obtain ⟨v, h1, _⟩ := r.get (List.getElem?_eq_getElem hi)
    exact ⟨vs, v, sqt_mono s h, h1⟩
  stop := fun H s => ⟨vs, sqt_mono s h, by rw [r.len]; exact Nat.le_refl _⟩
  yld := fun i H x H' s hi ⟨e, y⟩ => by
    subst e
    obtain ⟨v, h1, h2⟩ := r.get (List.getElem?_eq_getElem hi)
    have hx := y vs (sqt_mono s h)
    rw [h1] at hx
    cases hx
    exact ⟨Same.id _, _, List.getElem?_eq_getElem hi, fun B F1 σ Γ s1 E1 => ⟨F1, Same.id F1, fun _ _ _ => rfl, E1, Rep.mono s1 _ _ h2⟩⟩
theorem walks_str {x : Str} : Walks K F (Its x) (signs x) where
  go := fun i H s hi => by
    have : (signs x).length = x.cps.size := by unfold signs; rw [List.length_map, Array.length_toList]
    show i < x.cps.size
    omega
  stop := fun H s => by
    have : (signs x).length = x.cps.size := by unfold signs; rw [List.length_map, Array.length_toList]
    show x.cps.size ≤ (signs x).length
    omega
  yld := fun i H v H' s hi ⟨e, c, h1, h2⟩ => by
    subst e
    refine ⟨Same.id _, .str ⟨#[c]⟩, ?_, fun B F1 σ Γ s1 E1 => ⟨F1, Same.id F1, fun _ _ _ => rfl, E1, h2⟩⟩
    unfold signs
    rw [List.getElem?_map, Array.getElem?_toList, h1]
    rfl
theorem walks_range {lo : Int} {n : Nat} : Walks K F (Itr lo n) (rangeL lo n) where
  go := fun i H s hi => by
    have : (rangeL lo n).length = n := by unfold rangeL; rw [List.length_map, List.length_range]
    show i < n
    omega
  stop := fun H s => by
    have : (rangeL lo n).length = n := by unfold rangeL; rw [List.length_map, List.length_range]
    show n ≤ (rangeL lo n).length
    omega
  yld := fun i H v H' s hi ⟨e, h1⟩ => by
    subst e
    have hn : i < n := by
      have : (rangeL lo n).length = n := by unfold rangeL; rw [List.length_map, List.length_range]
      omega
    refine ⟨Same.id _, .int (lo + i), ?_, fun B F1 σ Γ s1 E1 => ⟨F1, Same.id F1, fun _ _ _ => rfl, E1, h1⟩⟩
    unfold rangeL
    rw [List.getElem?_map, List.getElem?_range hn]
    rfl
end
/-- a list, a tuple, a text: walked -/
def iAny (K : PySem.W.Frag) (tl : TE) : TI := fun σ H R => tl σ H fun x H1 => (∃ a, x = .ref a ∧ (∃ xs, SqL K H1 a xs) ∧ R (Itl K a) H1) ∨ (∃ a, x = .ref a ∧ (∃ xs, SqT K H1 a xs) ∧ R (Itt K a) H1) ∨ ∃ z, x = .str z ∧ R (Its z) H1
section
variable {X : Cx} {tg : Expr} {W : WX}
theorem pi_any {l : Expr} {tl : TE} (hl : PE X l tl) : PI X tg l (iAny X.K tl) := by
  refine ⟨fun pins s σ H R I h => ?_⟩
  refine thn (hl.run pins s σ H _ I h) fun v s1 ⟨x, H1, I1, r1, q1⟩ => ?_
  rcases q1 with ⟨a, e, hq, q⟩ | ⟨a, e, hq, q⟩ | ⟨z, e, q⟩
  · subst e
    cases r1
    obtain ⟨its, rv, p, hz⟩ := I1.list hq.choose_spec
    refine wpAny_pyIter_list p.isList ?_
    refine ⟨s1.heap.objs.size, [s1.heap.objs.size], _, _, H1, rfl, I1.kept (t' := s1.toks) fun b o e => Heap.get?_push_of_some _ e, turn_list a _, ⟨_, Heap.get?_push_size _ rfl, rfl, rfl⟩, fun b hb => ?_, q⟩
    have e : b = s1.heap.objs.size := by simpa using hb
    subst e
    exact I1.fpOk (Nat.le_refl _) (I1.hok.fresh (Nat.le_refl _))
  · subst e
    cases r1
    obtain ⟨its, rv, p, hz⟩ := I1.tuple hq.choose_spec
    refine wpAny_pyIter_tuple (show s1.heap.IsTuple a its.toArray from p) ?_
    refine ⟨s1.heap.objs.size, [s1.heap.objs.size], _, _, H1, rfl, I1.kept (t' := s1.toks) fun b o e => Heap.get?_push_of_some _ e, turn_tuple a _, ⟨_, Heap.get?_push_size _ rfl, rfl, rfl⟩, fun b hb => ?_, q⟩
    have e : b = s1.heap.objs.size := by simpa using hb
    subst e
    exact I1.fpOk (Nat.le_refl _) (I1.hok.fresh (Nat.le_refl _))
  · subst e
    obtain ⟨t, rfl⟩ := r1
    cases ha : z.cps.all (· < 128)
    · exact PySem.wpAny_pyIter_wide ha (pi_one (tk := s1.toks) I1 _ (turn_str _ z t "str_iterator" (.inr rfl)) ⟨_, Heap.get?_push_size _ rfl, rfl, rfl⟩ q)
    · exact PySem.wpAny_pyIter_ascii ha (pi_one (tk := s1.toks) I1 _ (turn_str _ z t "str_ascii_iterator" (.inl rfl)) ⟨_, Heap.get?_push_size _ rfl, rfl, rfl⟩ q)
theorem di_of {iter : Expr} {t : TI} {wi : WI} (h : PI X tg iter t) (k : ∀ σ H Q, liftI X.K X.mg W wi σ H Q → t σ H Q) : DI X W tg iter wi := ⟨h.imp k⟩
theorem di_any {e : Expr} {w : WE} (he : DE X W e w) : DI X W tg e (wIt w) := di_of (pi_any he.pe) fun σ H Kn ⟨B, F, Γ, Q, Xq, E, hw, k, kx⟩ => ⟨B, F, Γ, _, Xq, E, hw, fun v r H' F' Γ' s E' rr q => by
  obtain ⟨F2, s2, E2, rr2⟩ := E'.fz rr
  have q' : match wIt.rdf r with
    | some d => match items d with
      | some l => Q l Γ'
      | none => False
    | none => False := q
  have go : ∀ d, Rep X.K F2 v d → (match items d with
      | some l => Q l Γ'
      | none => False) → (∃ a, v = .ref a ∧ (∃ xs, SqL X.K H' a xs) ∧ Kn (Itl X.K a) H') ∨ (∃ a, v = .ref a ∧ (∃ xs, SqT X.K H' a xs) ∧ Kn (Itt X.K a) H') ∨ ∃ z, v = .str z ∧ Kn (Its z) H' := fun d hr hq => by
    cases d with
    | list l =>
      obtain ⟨a, vs, e, h1, h2⟩ := hr
      exact .inl ⟨a, e, ⟨vs, sql_mono E2.ex h1⟩, k _ l H' F2 Γ' (s.trans s2) E2 (walks_list h1 h2) hq⟩
    | tuple l =>
      obtain ⟨a, vs, e, h1, h2⟩ := hr
      exact .inr (.inl ⟨a, e, ⟨vs, sqt_mono E2.ex h1⟩, k _ l H' F2 Γ' (s.trans s2) E2 (walks_tup h1 h2) hq⟩)
    | str x => exact .inr (.inr ⟨x, hr, k _ (signs x) H' F2 Γ' (s.trans s2) E2 walks_str hq⟩)
    | _ => exact hq.elim
  cases r with
  | d x => exact go x rr2 q'
  | o l => exact go (.list l) rr2 q'
  | b i => exact q'.elim, kx⟩
theorem di_rng1 {a : Expr} {p pos : Pos} {wa : WA} (ha : DA X W [a] wa) (hm : X.mg "range" = none) (hg : Gl X "range" := by rfl) (hs : starEach [a] X.env = [(false, eval a X.env)] := by rfl) : DI X W tg (.Call (.Name "range" p) [a] [] pos) (wRng1 wa) :=
  di_of (pi_range1 hg hm ha.pa hs) fun σ H Kn ⟨B, F, Γ, Q, Xq, E, hw, k, kx⟩ => ⟨B, F, Γ, _, Xq, E, hw, fun vs rs H' F' Γ' s E' rr q => by
    obtain ⟨n, e, hn, q⟩ := q
    subst e
    obtain ⟨v, ws, e1, h1, h2⟩ := rr
    rw [show ws = [] from h2, show v = V.int _ from h1] at e1
    exact ⟨_, e1, hn.1, hn.2, k _ _ H' F' Γ' s E' walks_range q⟩, kx⟩
theorem di_rng2 {a b : Expr} {p pos : Pos} {wa : WA} (ha : DA X W [a, b] wa) (hm : X.mg "range" = none) (hg : Gl X "range" := by rfl) (hs : starEach [a, b] X.env = [(false, eval a X.env), (false, eval b X.env)] := by rfl) (hs2 : starEach [b] X.env = [(false, eval b X.env)] := by rfl) : DI X W tg (.Call (.Name "range" p) [a, b] [] pos) (wRng2 wa) :=
  di_of (pi_range2 hg hm ha.pa hs hs2) fun σ H Kn ⟨B, F, Γ, Q, Xq, E, hw, k, kx⟩ => ⟨B, F, Γ, _, Xq, E, hw, fun vs rs H' F' Γ' s E' rr q => by
    obtain ⟨i, j, e, hi, hj, q⟩ := q
    subst e
    obtain ⟨v, ws, e1, h1, v2, ws2, e2, h2, h3⟩ := rr
    rw [show v = V.int _ from h1, e2, show ws2 = [] from h3, show v2 = V.int _ from h2] at e1
    exact ⟨_, _, e1, ⟨hi.1, hi.2, hj.1, hj.2⟩, k _ _ H' F' Γ' s E' walks_range q⟩, kx⟩
end
/-! ### for -/
structure ForI (t : Tg) (body : WS) (P : Pst) (ds : List PyData) (I : List PyData → G → Prop) : Prop where
  step : ∀ (pre : List PyData) (d : PyData) (post : List PyData) (Γ : G), ds = pre ++ d :: post → I pre Γ → wG t d Γ (fun Γ2 => body Γ2 { P with nx := I (pre ++ [d]), ct := I (pre ++ [d]), bk := P.nx })
  fin : ∀ Γ, I ds Γ → P.nx Γ
def wFor (wi : WI) (t : Tg) (body : WS) : WS := fun Γ P => wi Γ (fun ds Γ1 => ∃ I, I [] Γ1 ∧ ForI t body P ds I) P.xc
section
variable {X : Cx} {W : WX} {pos : Pos} {tg iter : Expr} {body : List Stmt} {wi : WI} {t : Tg} {u : WS}
theorem ds_for (hp : PassesOwn (model X.prog X.w) X.A X.env X.xe) (hc : X.calm = true) (hi : DI X W tg iter wi) (hg : PG X tg (gOf X.K t)) (hb : DSs X W body u)
    (hs : ∀ x, foldedSetIterable iter X.env x = pure x := by intro _; rfl) : DS X W (.For tg iter body [] pos) (wFor wi t u) :=
  ds_of (ps_for hp hc hi.pi hg hb.pss hs) fun D σ H ⟨B, F, Γ, P, E, hw, k⟩ => ⟨B, F, Γ, _, P.xc, E, hw, fun J ds H1 F1 Γ1 s1 E1 wk q => by
    obtain ⟨I, i0, fi⟩ := q
    refine ⟨fun i m σ H => m = ds.length - i ∧ i ≤ ds.length ∧ ∃ F Γ, Same F1 F ∧ EnvR X.K B F H σ Γ ∧ I (ds.take i) Γ, ⟨ds.length, by simp, Nat.zero_le _, F1, Γ1, Same.id F1, E1, i0⟩, ?_⟩
    rintro i m σ2 H2 ⟨rfl, hi, F2, Γ2, s2, E2, q2⟩
    by_cases hlt : i < ds.length
    · refine .inr ⟨wk.go i H2 (fun a o h => E2.ex a o (s2 a o h)) hlt, fun σ H => ∃ F Γ, Same F1 F ∧ EnvR X.K B F H σ Γ ∧ I (ds.take (i + 1)) Γ, fun σ' H' ⟨F, Γ, a, b, c⟩ => ⟨ds.length - (i + 1), by omega, rfl, hlt, F, Γ, a, b, c⟩, fun x H3 y => ?_⟩
      obtain ⟨sH, d, hd, hw⟩ := wk.yld i H2 x H3 (fun a o h => E2.ex a o (s2 a o h)) hlt y
      obtain ⟨F3, s3, _, E3, hr⟩ := hw B F2 σ2 Γ2 s2 E2
      have ed : ds = ds.take i ++ d :: ds.drop (i + 1) := by
        rw [List.getElem?_eq_getElem hlt] at hd
        rw [← Option.some.inj hd]
        simp
      have et : ds.take (i + 1) = ds.take i ++ [d] := by
        rw [List.getElem?_eq_getElem hlt] at hd
        rw [← Option.some.inj hd]
        exact (List.take_append_getElem hlt).symm
      rw [et]
      refine g_go E3 hr (fi.step _ d _ _ ed q2) fun σ4 Γ4 E4 _ q4 => ?_
      exact ⟨B, F3, Γ4, _, E4, q4, fun σ' H' F' Γ' s E' q => ⟨F', Γ', (s2.trans s3).trans s, E', q⟩, fun v r σ' H' F' Γ' s => k.rt v r σ' H' F' Γ' (((s1.trans s2).trans s3).trans s), fun σ' H' F' Γ' s => k.nx σ' H' F' Γ' (((s1.trans s2).trans s3).trans s),
        fun σ' H' F' Γ' s E' q => ⟨F', Γ', (s2.trans s3).trans s, E', q⟩, fun σ' => (k.xc σ').mono ((s1.trans s2).trans s3)⟩
    · have e : i = ds.length := by omega
      subst e
      refine .inl ⟨wk.stop H2 fun a o h => E2.ex a o (s2 a o h), k.nx σ2 H2 F2 Γ2 (s1.trans s2) E2 (fi.fin Γ2 ?_)⟩
      rw [List.take_length] at q2
      exact q2, k.xc σ⟩
end
end DL

namespace DL
open PySem L2
/-! ### comprehensions -/
def noMut (Γ : G) : List Nat → Prop
  | [] => True
  | i :: is => (match Γ[i]? with
    | some (.own _) => False
    | some (.cell _) => False
    | _ => True) ∧ noMut Γ is
def wipeG (Γ : G) : List Nat → G
  | [] => Γ
  | i :: is => (wipeG Γ is).set i .no
def backG (Γ0 : G) : G → List Nat → G
  | Γ, [] => Γ
  | Γ, i :: is => match Γ0[i]? with
    | some s => backG Γ0 (Γ.set i s) is
    | none => backG Γ0 Γ is
def noX : XQ := fun _ _ => False
def rdf : R → Option PyData
  | .d x => some x
  | .o l => some (.list l)
  | .b _ => none
def wYes : WT := fun Γ Q _ => Q true Γ
/-- one turn of a comprehension: what is made of it, if anything -/
def lcS (t : Tg) (cond : WT) (elt : WE) (vs : List Nat) (Kn : Option PyData → G → Prop) (d : PyData) (Γ : G) : Prop := wG t d Γ (fun Γ2 => cond Γ2 (fun b Γ3 => if b = true then elt Γ3 (fun r Γ4 => match rdf r with
    | some x => Kn (some x) (wipeG Γ4 vs)
    | none => False) noX else Kn none (wipeG Γ3 vs)) noX)
structure LcI (t : Tg) (cond : WT) (elt : WE) (vs : List Nat) (Fin : List PyData → G → Prop) (ds : List PyData) (I : List PyData → List PyData → G → Prop) : Prop where
  step : ∀ (pre : List PyData) (d : PyData) (post acc : List PyData) (Γ : G), ds = pre ++ d :: post → I pre acc Γ → lcS t cond elt vs (fun o Γ' => I (pre ++ [d]) (acc ++ o.toList) Γ') d Γ
  fin : ∀ acc Γ, I ds acc Γ → Fin acc Γ
def wLc (wi : WI) (t : Tg) (cond : WT) (elt : WE) (vs : List Nat) : WE := fun Γ Q X => wi Γ (fun ds Γ1 => noMut Γ1 vs ∧ ds.length < sizeLine ∧ ∃ I, I [] [] (wipeG Γ1 vs) ∧ LcI t cond elt vs (fun acc Γ2 => Q (.o acc) (backG Γ1 Γ2 vs)) ds I) X
section
variable {K : PySem.W.Frag} {mg : Str → Option Value} {W : WX} {B : Bs} {F F' F2 H H' H2 : Hp} {σ σ' : St} {Γ Γ' Γ0 : G}
theorem EnvR.wiped (E : EnvR K B F H σ Γ) : ∀ {vs : List Nat}, (∀ i ∈ vs, B.pin i = none) → EnvR K B F H (wipe σ vs) (wipeG Γ vs)
  | [], _ => E
  | i :: vs, h => (E.wiped (vs := vs) fun j hj => h j (List.mem_cons_of_mem _ hj)).putSl (h i List.mem_cons_self) (.inl rfl)
theorem noMut_at : ∀ {vs : List Nat} {i : Nat}, noMut Γ vs → i ∈ vs → ∀ s, Γ[i]? = some s → s = Sl.no ∨ ∃ d, s = Sl.v d
  | j :: vs, i, h, hm, s, e => by
    rcases List.mem_cons.mp hm with z | z
    · subst z
      have h1 := h.1
      rw [e] at h1
      cases s with
      | no => exact .inl rfl
      | v d => exact .inr ⟨d, rfl⟩
      | own l => exact h1.elim
      | cell l => exact h1.elim
    · exact noMut_at h.2 z s e
theorem EnvR.noPin (E : EnvR K B F H σ Γ) {vs : List Nat} (h : noMut Γ vs) : ∀ i ∈ vs, B.pin i = none := fun i hi => by
  cases q : B.pin i with
  | none => rfl
  | some p =>
    obtain ⟨l, a1, _⟩ := E.pin i p q
    rcases noMut_at h hi _ a1 with z | ⟨d, z⟩ <;> cases z
/-- back from the block: its own slots as they were -/
theorem EnvR.back (E0 : EnvR K B F H σ Γ0) (s : Same F F') : ∀ {vs : List Nat} {Γ : G}, vs.Nodup → noMut Γ0 vs → EnvR K B F' H' (wipe σ vs) Γ → EnvR K B F' H' σ (backG Γ0 Γ vs)
  | [], Γ, _, _, E => E
  | i :: vs, Γ, nd, nm, E => by
    have np := E0.noPin nm i List.mem_cons_self
    have nd' := List.nodup_cons.mp nd
    have base : ∀ {s : Sl} {x : Option V}, (wipe σ vs)[i]? = some x → (s = Sl.no ∨ ∃ d v, s = Sl.v d ∧ x = some v ∧ Rep K F' v d) → EnvR K B F' H' (wipe σ vs) (Γ.set i s) := fun {s x} hx hs => by
      have q := E.putSl (x := x) np hs
      have e : (wipe σ (i :: vs)).set i x = wipe σ vs := by
        show ((wipe σ vs).set i none).set i x = wipe σ vs
        rw [List.set_set]
        apply List.ext_getElem?
        intro j
        by_cases hij : i = j
        · subst hij
          have hl := (List.getElem?_eq_some_iff.mp hx).1
          rw [List.getElem?_set_self hl, hx]
        · rw [List.getElem?_set_ne hij]
      rw [e] at q
      exact q
    unfold backG
    cases e : Γ0[i]? with
    | none =>
      refine EnvR.back E0 s nd'.2 nm.2 ?_
      have hl : ¬ i < (wipe σ vs).length := by
        rw [wipe_length, E0.len]
        intro z
        rw [List.getElem?_eq_none_iff] at e
        omega
      have e2 : wipe σ (i :: vs) = wipe σ vs := by
        show (wipe σ vs).set i none = wipe σ vs
        rw [List.set_eq_of_length_le (Nat.le_of_not_lt hl)]
      rw [e2] at E
      exact E
    | some sl =>
      refine EnvR.back E0 s nd'.2 nm.2 ?_
      have hlt : i < (wipe σ vs).length := by rw [wipe_length, E0.len]; exact lt_of_get e
      have hx : (wipe σ vs)[i]? = σ[i]? := wipe_out nd'.1
      rcases noMut_at nm List.mem_cons_self sl e with z | ⟨d, z⟩
      · exact base (List.getElem?_eq_getElem hlt) (.inl z)
      · subst z
        obtain ⟨v, h1, h2⟩ := E0.val i d e
        exact base (hx.trans h1) (.inr ⟨d, v, rfl, rfl, Rep.mono s _ _ h2⟩)
end
section
variable {X : Cx} {W : WX} {pos : Pos} {tg iter elt : Expr} {ifs : List Expr} {wi : WI} {t : Tg} {cond : WT} {w : WE}
/-- the tests of a comprehension -/
structure DTs (X : Cx) (W : WX) (ifs : List Expr) (w : WT) : Prop where
  pts : PTs X ifs (liftT X.K X.mg W w)
theorem dts_nil : DTs X W [] wYes := ⟨⟨fun pins s σ H Q I hw => by
  obtain ⟨B, F, Γ, Qq, Xq, E, hw, k, kx⟩ := hw
  exact (pts_nil (X := X)).run pins s σ H Q I (k true H F Γ (Same.id F) E hw)⟩⟩
theorem dts_one {c : Expr} (h : DT X W c cond) : DTs X W [c] cond := ⟨pts_one h.pt⟩
abbrev WF : WX := fun _ _ _ _ => False
theorem wipe2 (us : List Nat) (τ : St) : wipe (wipe τ us) us = wipe τ us := by
  apply List.ext_getElem?
  intro j
  by_cases hj : j ∈ us
  · have z : ∀ (τ : St), j < τ.length → (wipe τ us)[j]? = some none := fun τ hl => by
      have hl' : j < (wipe τ us).length := by rw [wipe_length]; exact hl
      cases e : (wipe τ us)[j]? with
      | none => rw [List.getElem?_eq_none_iff] at e; omega
      | some o =>
        cases o with
        | none => rfl
        | some v => exact absurd hj (wipe_some e).2
    by_cases hl : j < τ.length
    · rw [z τ hl, z (wipe τ us) (by rw [wipe_length]; exact hl)]
    · rw [List.getElem?_eq_none (by rw [wipe_length, wipe_length]; omega), List.getElem?_eq_none (by rw [wipe_length]; omega)]
  · rw [wipe_out hj]
theorem wipeG_at : ∀ {us : List Nat} {Γ : G} {j : Nat} {s : Sl} {l : List PyData}, (wipeG Γ us)[j]? = some s → s.mu = some l → j ∉ us ∧ Γ[j]? = some s
  | [], _, _, _, _, h, _ => ⟨by simp, h⟩
  | i :: us, Γ, j, s, l, h, hm => by
    have h' : ((wipeG Γ us).set i Sl.no)[j]? = some s := h
    by_cases hij : i = j
    · subst hij
      rw [set_self_eq h'] at hm
      cases hm
    · rw [get_set_ne hij] at h'
      obtain ⟨a, b⟩ := wipeG_at h' hm
      exact ⟨fun z => (List.mem_cons.mp z).elim (fun e => hij e.symm) a, b⟩
theorem mut_wipe {us : List Nat} {τ σ : St} {Γ : G} {a : Addr} (h : MutAt (wipe σ us) (wipeG Γ us) a) : MutAt σ Γ a := by
  obtain ⟨i, s, l, a1, a2, a3⟩ := h
  obtain ⟨b1, b2⟩ := wipeG_at a1 a2
  rw [wipe_out b1] at a3
  exact ⟨i, s, l, b2, a2, a3⟩
theorem backG_at {Γ0 : G} : ∀ {us : List Nat} {Γ : G} {j : Nat} {s : Sl} {l : List PyData}, noMut Γ0 us → j < Γ0.length → (backG Γ0 Γ us)[j]? = some s → s.mu = some l → j ∉ us ∧ Γ[j]? = some s
  | [], _, _, _, _, _, _, h, _ => ⟨by simp, h⟩
  | i :: us, Γ, j, s, l, nm, hj, h, hm => by
    unfold backG at h
    cases e : Γ0[i]? with
    | none =>
      rw [e] at h
      obtain ⟨a, b⟩ := backG_at nm.2 hj h hm
      refine ⟨fun z => (List.mem_cons.mp z).elim (fun q => ?_) a, b⟩
      rw [← q, List.getElem?_eq_none_iff] at e
      omega
    | some t =>
      rw [e] at h
      obtain ⟨a, b⟩ := backG_at nm.2 hj h hm
      by_cases hij : i = j
      · subst hij
        have := set_self_eq b
        subst this
        rcases noMut_at nm List.mem_cons_self s e with z | ⟨d, z⟩ <;> rw [z] at hm <;> cases hm
      · rw [get_set_ne hij] at b
        exact ⟨fun z => (List.mem_cons.mp z).elim (fun q => hij q.symm) a, b⟩
theorem lc_go {K : PySem.W.Frag} {mg : Str → Option Value} {σ : St} {H : Hp} {Kn : VK} {vs : List Nat} (nd : vs.Nodup) (ht : ∀ i ∈ t.slots, i ∈ vs) (h : liftE K mg W (wLc wi t cond w vs) σ H Kn) :
    tLc (liftI K mg W wi) (gOf K t) (liftT K mg WF cond) (liftE K mg WF w) vs σ H Kn := by
  obtain ⟨B, F, Γ, Q, Xq, E, hw, k, kx⟩ := h
  refine ⟨B, F, Γ, _, Xq, E, hw, fun J ds H1 F1 Γ1 s1 E1 wk q => ?_, kx⟩
  obtain ⟨nm, hlen, I, i0, li⟩ := q
  have np := E1.noPin nm
  intro D hD
  have hDF : F1 D = none := none_back E1.ex hD
  have hD0 : B.H0 D = none := E1.old hD
  have noM : ¬ MutAt σ Γ1 D := fun ⟨i, s, l, a1, a2, a3⟩ => by
    obtain ⟨_, ws, c, _⟩ := E1.muH a1 a2 a3
    rw [hD] at c; cases c
  -- what holds between the turns
  refine ⟨fun i m H => m = ds.length - i ∧ i ≤ ds.length ∧ ∃ F Γ acc accV, Same F1 F ∧ EnvR K B F H (wipe σ vs) Γ ∧ H D = some (.lst accV) ∧ F D = none ∧ ¬ MutAt (wipe σ vs) Γ D ∧ Reps K F accV acc ∧ acc.length ≤ i ∧
    I (ds.take i) acc Γ, ⟨ds.length, by simp, Nat.zero_le _, F1, _, [], [], Same.id F1, ((E1.wiped np).poke hD0 hDF ?_), upd_same, hDF, ?_, rfl, Nat.le_refl _, i0⟩, ?_⟩
  · rintro ⟨i, s, l, a1, a2, a3⟩
    obtain ⟨_, ws, c, _⟩ := (E1.wiped np).muH a1 a2 a3
    rw [hD] at c; cases c
  · rintro ⟨i, s, l, a1, a2, a3⟩
    obtain ⟨_, ws, c, _⟩ := (E1.wiped np).muH a1 a2 a3
    rw [hD] at c; cases c
  rintro i m H2 ⟨rfl, hi, F2, Γ2, acc, accV, s2, E2, dD, dF, dM, rA, lA, q2⟩
  by_cases hlt : i < ds.length
  · refine .inr ⟨wk.go i H2 (fun a o h => E2.ex a o (s2 a o h)) hlt, fun H => ∃ F Γ acc accV, Same F1 F ∧ EnvR K B F H (wipe σ vs) Γ ∧ H D = some (.lst accV) ∧ F D = none ∧ ¬ MutAt (wipe σ vs) Γ D ∧ Reps K F accV acc ∧ acc.length ≤ i + 1 ∧
      I (ds.take (i + 1)) acc Γ, fun H' hN => ⟨ds.length - (i + 1), by omega, rfl, hlt, hN⟩, fun x H3 y => ?_⟩
    obtain ⟨sH, d, hd, hw⟩ := wk.yld i H2 x H3 (fun a o h => E2.ex a o (s2 a o h)) hlt y
    obtain ⟨F3, s3, fz3, E3, hr⟩ := hw B F2 (wipe σ vs) Γ2 s2 E2
    have ed : ds = ds.take i ++ d :: ds.drop (i + 1) := by
      rw [List.getElem?_eq_getElem hlt] at hd
      rw [← Option.some.inj hd]
      simp
    have et : ds.take (i + 1) = ds.take i ++ [d] := by
      rw [List.getElem?_eq_getElem hlt] at hd
      rw [← Option.some.inj hd]
      exact (List.take_append_getElem hlt).symm
    rw [et]
    have q3 := li.step _ d _ acc Γ2 ed q2
    unfold lcS at q3
    have dD3 : H3 D = some (.lst accV) := sH D _ dD
    have dF3 : F3 D = none := (fz3 D _ dD).trans dF
    refine g_go E3.rebase hr q3 fun σ4 Γ4 E4 hwip q4 => ⟨by rw [hwip vs ht, wipe2], ?_⟩
    have ew : wipe σ4 vs = wipe σ vs := by rw [hwip vs ht, wipe2]
    have hmw : ∀ Γ', MutAt (wipe σ vs) (wipeG Γ' vs) D → MutAt σ4 Γ' D := fun Γ' z => mut_wipe (us := vs) (τ := σ4) (by rw [ew]; exact z)
    refine ⟨_, F3, Γ4, _, noX, E4, q4, fun b H5 F5 Γ5 s5 E5 q5 => ?_, fun x cls dd H' F' Γ' h => h.elim⟩
    cases b with
    | false =>
      obtain ⟨c1, c2, c3⟩ := E3.stay E5 dD3 dM
      have E6 := (E3.unbase E5).wiped np
      rw [hwip vs ht, wipe2] at E6
      have q5' : I (ds.take i ++ [d]) (acc ++ (none : Option PyData).toList) (wipeG Γ5 vs) := q5
      rw [Option.toList_none, List.append_nil] at q5'
      refine ⟨F5, _, acc, accV, (s2.trans s3).trans s5, E6, c1, c2.trans dF3, fun z => c3 (hmw _ z), Reps.mono (s3.trans s5) _ _ rA, Nat.le_succ_of_le lA, q5'⟩
    | true =>
      have q5' : w Γ5 (fun r Γ4 => match rdf r with
        | some x => I (ds.take i ++ [d]) (acc ++ (some x : Option PyData).toList) (wipeG Γ4 vs)
        | none => False) noX := q5
      show liftE K mg WF w σ4 H5 _
      refine ⟨_, F5, Γ5, _, noX, E5, q5', fun v r H6 F6 Γ6 s6 E6 rr q6 => ?_, fun x cls dd H' F' Γ' h => h.elim⟩
      obtain ⟨F7, s7, E7, rr7⟩ := E6.fz rr
      have q6' : match rdf r with
        | some x => I (ds.take i ++ [d]) (acc ++ (some x : Option PyData).toList) (wipeG Γ6 vs)
        | none => False := q6
      obtain ⟨c1, c2, c3⟩ := E3.stay E7 dD3 dM
      have E8 := E3.unbase E7
      have c2' : F7 D = none := c2.trans dF3
      have fin : ∀ x, Rep K F7 v x → I (ds.take i ++ [d]) (acc ++ [x]) (wipeG Γ6 vs) →
          ∃ acc, H6 D = some (.lst acc) ∧ acc.length < sizeLine ∧ ∃ F Γ acc' accV, Same F1 F ∧ EnvR K B F (upd H6 D (.lst (acc ++ [v]))) (wipe σ vs) Γ ∧ (upd H6 D (.lst (acc ++ [v]))) D = some (.lst accV) ∧ F D = none ∧ ¬ MutAt (wipe σ vs) Γ D ∧ Reps K F accV acc' ∧ acc'.length ≤ i + 1 ∧
            I (ds.take i ++ [d]) acc' Γ := fun x hx hq => by
        have E9 := (E8.poke (o := .lst (accV ++ [v])) hD0 c2' c3).wiped np
        rw [hwip vs ht, wipe2] at E9
        refine ⟨accV, c1, (by rw [rA.len]; omega), F7, _, acc ++ [x], accV ++ [v], (((s2.trans s3).trans s5).trans s6).trans s7, E9, upd_same, c2', fun z => c3 (hmw _ z), (Reps.mono (((s3.trans s5).trans s6).trans s7) _ _ rA).append (Reps.one hx), ?_, hq⟩
        rw [List.length_append, List.length_singleton]; omega
      cases r with
      | d x => exact fin x rr7 q6'
      | o l => exact fin (.list l) rr7 q6'
      | b j => exact q6'.elim
  · have e : i = ds.length := by omega
    subst e
    refine .inl ⟨wk.stop H2 fun a o h => E2.ex a o (s2 a o h), ?_⟩
    rw [List.take_length] at q2
    have q2 := li.fin acc Γ2 q2
    have Eb := E1.back s2 nd nm E2
    refine k (.ref D) (.o acc) H2 F2 _ (s1.trans s2) Eb ⟨D, accV, rfl, dF, dD, rA, hD0, fun j s m a1 a2 a3 => ?_⟩ q2
    have nj : j ∉ vs ∧ Γ2[j]? = some s := backG_at nm (by
      have := lt_of_get a1
      rw [← Eb.len, E1.len] at this
      exact this) a1 a2
    exact dM ⟨j, s, m, nj.2, a2, by rw [wipe_out nj.1]; assumption⟩
theorem de_lc {scope : Scope} {own : List (Str × Nat)} (hc : X.calm = true) (hN : X.N.Nodup) (hi : DI X W tg iter wi) (ok : BlkOk X.N X.env.scope scope own)
    (hg : ∀ (s : Shared) (H : Hp) (C : Addr) (cl : List (Str × Addr)) (fp : List Addr), PG (X.blk s H scope (PySem.compEnvC scope cl C X.env) fp) tg (gOf X.K t)) (ht : ∀ (s : Shared) (H : Hp) (C : Addr) (cl : List (Str × Addr)) (fp : List Addr), DTs (X.blk s H scope (PySem.compEnvC scope cl C X.env) fp) WF ifs cond)
    (he : ∀ (s : Shared) (H : Hp) (C : Addr) (cl : List (Str × Addr)) (fp : List Addr), DE (X.blk s H scope (PySem.compEnvC scope cl C X.env) fp) WF elt w) (nd : (own.map (·.2)).Nodup := by decide) (hsl : ∀ i ∈ t.slots, i ∈ own.map (·.2) := by decide) (hs : ∀ x, foldedSetIterable iter X.env x = pure x := by intro _; rfl) :
    DE X W (.ListComp elt [⟨tg, iter, ifs, 0⟩] scope pos) (wLc wi t cond w (own.map (·.2))) :=
  de_of (pe_lc hc hN hi.pi ok hg (fun s H C cl fp => (ht s H C cl fp).pts) (fun s H C cl fp => (he s H C cl fp).pe) hs) fun _ _ _ h => lc_go nd hsl h
theorem ds_setLc {i : Nat} {y : Str} {py spos : Pos} {scope : Scope} {own : List (Str × Nat)} (hc : X.calm = true) (hN : X.N.Nodup) (hi : DI X W tg iter wi) (ok : BlkOk X.N X.env.scope scope own)
    (hg : ∀ (s : Shared) (H : Hp) (C : Addr) (cl : List (Str × Addr)) (fp : List Addr), PG (X.blk s H scope (PySem.compEnvC scope cl C X.env) fp) tg (gOf X.K t)) (ht : ∀ (s : Shared) (H : Hp) (C : Addr) (cl : List (Str × Addr)) (fp : List Addr), DTs (X.blk s H scope (PySem.compEnvC scope cl C X.env) fp) WF ifs cond)
    (he : ∀ (s : Shared) (H : Hp) (C : Addr) (cl : List (Str × Addr)) (fp : List Addr), DE (X.blk s H scope (PySem.compEnvC scope cl C X.env) fp) WF elt w)
    (hsw : swapsWith (.ListComp elt [⟨tg, iter, ifs, 0⟩] scope pos) (some (.Name y py)) spos.line X.env = pure true := by exact sw_true rfl rfl rfl (by decide +kernel))
    (hy : X.N[i]? = some y := by rfl) (hyl : X.env.scope.names.lookup y = some .local := by rfl) (nd : (own.map (·.2)).Nodup := by decide) (hsl : ∀ i ∈ t.slots, i ∈ own.map (·.2) := by decide) (hs : ∀ x, foldedSetIterable iter X.env x = pure x := by intro _; rfl) :
    DS X W (.Assign [.Name y py] (.ListComp elt [⟨tg, iter, ifs, 0⟩] scope pos) spos) (wSet (wLc wi t cond w (own.map (·.2))) i) :=
  ds_of (ps_setLc hc hN hy hyl hsw hi.pi ok hg (fun s H C cl fp => (ht s H C cl fp).pts) (fun s H C cl fp => (he s H C cl fp).pe) hs) fun D σ H h => lc_go (W := W) nd hsl (set_go h)
end
/-! ### lists written -/
def mutAt (Γ : G) (i : Nat) : Option (List PyData) := match Γ[i]? with
  | some s => s.mu
  | none => none
def putAt (Γ : G) (i : Nat) (l : List PyData) : G := match Γ[i]? with
  | some s => Γ.set i (s.put l)
  | none => Γ
def wApp (i : Nat) (w : WE) : WS := fun Γ P => (∃ l, mutAt Γ i = some l) ∧ w Γ (fun r Γ1 => match rdf r, mutAt Γ1 i with
  | some d, some l => l.length < sizeLine ∧ P.nx (putAt Γ1 i (l ++ [d]))
  | _, _ => False) P.xc
def wPop (i : Nat) : WS := fun Γ P => match mutAt Γ i with
  | some l => l ≠ [] ∧ P.nx (putAt Γ i l.dropLast)
  | none => False
def wSetIx (i : Nat) (w wi : WE) : WS := fun Γ P => w Γ (fun r Γ1 => (∃ l, mutAt Γ1 i = some l) ∧ wi Γ1 (fun ri Γ2 => ∃ d k l j, rdf r = some d ∧ ri = .d (.int k) ∧ mutAt Γ2 i = some l ∧ ixN l.length k = some j ∧ P.nx (putAt Γ2 i (l.set j d))) P.xc) P.xc
theorem mutAt_some {Γ : G} {i : Nat} {l : List PyData} (h : mutAt Γ i = some l) : ∃ s : Sl, Γ[i]? = some s ∧ s.mu = some l ∧ ∀ c, putAt Γ i c = Γ.set i (s.put c) := by
  unfold mutAt at h
  cases e : Γ[i]? with
  | none => rw [e] at h; cases h
  | some s =>
    rw [e] at h
    exact ⟨s, rfl, h, fun c => by unfold putAt; rw [e]⟩
section
variable {K : PySem.W.Frag} {B : Bs} {F F' H H' : Hp} {σ : St} {Γ : G}
/-- a list of ours written in its place -/
theorem EnvR.writeL (E : EnvR K B F H σ Γ) {i : Nat} {l c : List PyData} {p : Addr} {ws : List V} (h : mutAt Γ i = some l) (hp : σ[i]? = some (some (V.ref p))) (hr : Reps K F ws c) : EnvR K B F (upd H p (.lst ws)) σ (putAt Γ i c) := by
  obtain ⟨s, h1, h2, h3⟩ := mutAt_some h
  rw [h3]
  refine E.write h1 h2 hp (fun a o n q => by rw [upd_ne n]; exact q) (Same.id F) (fun a o q => ?_) (fun _ _ _ => rfl) upd_same hr fun _ _ _ => rfl
  have : a ≠ p := ne_of_none q (E.muH h1 h2 hp).1
  rw [upd_ne this]
  exact E.ex a o q
end
section
variable {X : Cx} {W : WX} {e : Expr} {w wi : WE} {i : Nat} {x : Str} {px apos pos pos2 : Pos}
theorem ds_append {pos3 : Pos} (h0 : PE X (.Call (.Attribute (.Name x px) "append" apos) [e] [] pos) (tBM X.K "list" rAppend (tVar i) (tCons (liftE X.K X.mg W w) tNil)))
    (hs : swapsWith (.Call (.Attribute (.Name x px) "append" apos) [e] [] pos) none pos3.line X.env = pure false := by rfl) :
    DS X W (.Expr (.Call (.Attribute (.Name x px) "append" apos) [e] [] pos) pos3) (wApp i w) :=
  ds_of (ps_expr h0 hs) fun D σ H ⟨B, F, Γ, P, E, hw, k⟩ => by
    obtain ⟨⟨l, hl⟩, hw⟩ := hw
    obtain ⟨s, a1, a2, a3⟩ := mutAt_some hl
    obtain ⟨p, vs, b1, b2, b3, b4, b5⟩ := E.mu i s l a1 a2
    refine ⟨V.ref p, b1, .inl ⟨rfl, _, SqL.of b3⟩, B, F, Γ, _, P.xc, E, hw, fun v r H1 F1 Γ1 s1 E1 rr q => ?_, k.xc σ⟩
    obtain ⟨F2, s2, E2, rr2⟩ := E1.fz rr
    have q' : match rdf r, mutAt Γ1 i with
      | some d, some l => l.length < sizeLine ∧ P.nx (putAt Γ1 i (l ++ [d]))
      | _, _ => False := q
    cases em : mutAt Γ1 i with
    | none => rw [em] at q'; cases e : rdf r <;> rw [e] at q' <;> exact q'.elim
    | some l1 =>
      obtain ⟨s', c1, c2, c3⟩ := mutAt_some em
      obtain ⟨p', vs', d1, d2, d3, d4, d5⟩ := E2.mu i s' l1 c1 c2
      rw [b1] at d1
      cases d1
      rw [em] at q'
      have fin : ∀ d, Rep X.K F2 v d → (l1.length < sizeLine ∧ P.nx (putAt Γ1 i (l1 ++ [d]))) → rAppend (V.ref p) [v] H1 fun _ H1 => D.nx σ H1 := fun d hd hq =>
        ⟨p, vs', v, rfl, rfl, d3, by rw [d4.len]; exact hq.1, k.nx σ _ F2 _ (s1.trans s2) (E2.writeL em b1 (d4.append (Reps.one hd))) hq.2⟩
      cases r with
      | d x => exact fin x rr2 q'
      | o l => exact fin (.list l) rr2 q'
      | b j => exact q'.elim
theorem ds_pop {pos3 : Pos} (h0 : PE X (.Call (.Attribute (.Name x px) "pop" apos) [] [] pos) (tBM0 X.K "list" rPop (tVar i)))
    (hs : swapsWith (.Call (.Attribute (.Name x px) "pop" apos) [] [] pos) none pos3.line X.env = pure false := by rfl) :
    DS X W (.Expr (.Call (.Attribute (.Name x px) "pop" apos) [] [] pos) pos3) (wPop i) :=
  ds_of (ps_expr h0 hs) fun D σ H ⟨B, F, Γ, P, E, hw, k⟩ => by
    have hw' : match mutAt Γ i with
      | some l => l ≠ [] ∧ P.nx (putAt Γ i l.dropLast)
      | none => False := hw
    cases em : mutAt Γ i with
    | none => rw [em] at hw'; exact hw'.elim
    | some l =>
      rw [em] at hw'
      obtain ⟨s, a1, a2, a3⟩ := mutAt_some em
      obtain ⟨p, vs, b1, b2, b3, b4, b5⟩ := E.mu i s l a1 a2
      have hne : 0 < vs.length := by rw [b4.len]; exact List.length_pos_iff.mpr hw'.1
      exact ⟨V.ref p, b1, .inl ⟨rfl, _, SqL.of b3⟩, p, vs, _, rfl, rfl, b3, List.getElem?_eq_getElem (by omega), k.nx σ _ F _ (Same.id F) (E.writeL em b1 b4.dropLast) hw'.2⟩
theorem ds_setIx {ei : Expr} {tpos : Pos} (hv : PE X (.Name x px) (tVar i)) (he : DE X W e w) (hi : DE X W ei wi) (hs : swapsWithSole [.Subscript (.Name x px) ei tpos] e pos.line X.env = pure false := by rfl) (hw : swappedStores [.Subscript (.Name x px) ei tpos] e X.env = pure none := by rfl)
    (h1 : (assignEach [.Subscript (.Name x px) ei tpos] X.env).map (·.2) = [assign (.Subscript (.Name x px) ei tpos) X.env] := by rfl)
    (ha : ∀ v, assign (.Subscript (.Name x px) ei tpos) X.env v = (do
      let ov ← holding [v] (eval (.Name x px) X.env)
      let iv ← holding [v, ov] (eval ei X.env)
      standAt tpos
      holding [v, ov, iv] (setItem ov iv v)
      release [v, ov, iv] []) := by intro _; rfl) : DS X W (.Assign [.Subscript (.Name x px) ei tpos] e pos) (wSetIx i w wi) :=
  ds_of (ps_asg he.pe (pg_sub hv hi.pe set_list ha) hs hw h1) fun D σ H ⟨B, F, Γ, P, E, hw, k⟩ => by
    refine ⟨B, F, Γ, _, P.xc, E, hw, fun v r H1 F1 Γ1 s1 E1 rr q => ?_, k.xc σ⟩
    obtain ⟨⟨l, hl⟩, q⟩ := q
    obtain ⟨s, a1, a2, a3⟩ := mutAt_some hl
    obtain ⟨F2, s2, E2, rr2⟩ := E1.fz rr
    obtain ⟨p, vs, b1, _⟩ := E2.mu i s l a1 a2
    refine ⟨V.ref p, b1, B, F2, Γ1, _, P.xc, E2, q, fun vi ri H3 F3 Γ3 s3 E3 rr3 q3 => ?_, (k.xc σ).mono (s1.trans s2)⟩
    obtain ⟨d, kk, l3, j, e1, e2, em, ej, q⟩ := q3
    subst e2
    obtain ⟨s', c1, c2, c3⟩ := mutAt_some em
    obtain ⟨p', vs', d1, d2, d3, d4, d5⟩ := E3.mu i s' l3 c1 c2
    rw [b1] at d1
    cases d1
    have fin : Rep X.K F3 v d → rSetL (V.ref p) vi v H3 fun H3 => D.nx σ H3 := fun hd =>
      ⟨p, vs', kk, j, rfl, rr3, d3, by rw [d4.len]; exact ej, k.nx σ _ F3 _ ((s1.trans s2).trans s3) (E3.writeL em b1 (d4.set j hd)) q⟩
    cases r with
    | d x => cases e1; exact fin (Rep.mono s3 _ _ rr2)
    | o l => cases e1; exact fin (Rep.mono s3 _ _ rr2)
    | b j => cases e1
end
end DL

namespace DL
open PySem L2
/-! ### a def -/
def cellF : Sl → Option (List PyData)
  | .cell l => some l
  | _ => none
def cellsOf (n : Nat) (Γ : G) : List (List PyData) := (Γ.take n).filterMap cellF
def R.ok : R → Prop
  | .b _ => False
  | _ => True
def endP (n : Nat) (Q : R → List (List PyData) → Prop) (X : XN → Prop) : Pst where
  nx := fun Γ => Q (.d .none) (cellsOf n Γ)
  rt := fun r Γ => r.ok ∧ Q r (cellsOf n Γ)
  bk := fun _ => False
  ct := fun _ => False
  xc := fun x _ => X x
abbrev WD (E : XK) : WX := fun cls d _ H => E cls d H
section
variable {K : PySem.W.Frag} {mg : Str → Option Value} {B : Bs} {F F' H H' : Hp} {σ : St} {Γ : G}
theorem EnvR.pad (E : EnvR K B F H σ Γ) (m : Nat) : EnvR K B F H (σ ++ List.replicate m none) (Γ ++ List.replicate m Sl.no) := by
  have gl : ∀ {i : Nat} {s : Sl}, (Γ ++ List.replicate m Sl.no)[i]? = some s → (Γ[i]? = some s ∧ (σ ++ List.replicate m none)[i]? = σ[i]?) ∨ s = Sl.no := fun {i s} h => by
    by_cases hi : i < Γ.length
    · rw [List.getElem?_append_left hi] at h
      exact .inl ⟨h, List.getElem?_append_left (by rw [E.len]; exact hi)⟩
    · rw [List.getElem?_append_right (Nat.le_of_not_lt hi), List.getElem?_replicate] at h
      split at h
      · cases h; exact .inr rfl
      · cases h
  have up : ∀ {i : Nat} {s : Sl}, Γ[i]? = some s → (Γ ++ List.replicate m Sl.no)[i]? = some s ∧ (σ ++ List.replicate m none)[i]? = σ[i]? := fun {i s} h => by
    have hi := lt_of_get h
    exact ⟨by rw [List.getElem?_append_left hi]; exact h, List.getElem?_append_left (by rw [E.len]; exact hi)⟩
  refine ⟨E.ex, by rw [List.length_append, List.length_append, List.length_replicate, List.length_replicate, E.len], fun i d h => ?_, fun i s l h hm => ?_, fun i p h => ?_, fun i l h => ?_, fun i j s t l m p h1 h2 h3 h4 e1 e2 => ?_, E.keep, E.frz⟩
  · rcases gl h with ⟨a, b⟩ | z
    · rw [b]; exact E.val i d a
    · cases z
  · rcases gl h with ⟨a, b⟩ | z
    · rw [b]; exact E.mu i s l a hm
    · rw [z] at hm; cases hm
  · obtain ⟨l, a, b⟩ := E.pin i p h
    obtain ⟨c, d⟩ := up a
    exact ⟨l, c, d.trans b⟩
  · rcases gl h with ⟨a, b⟩ | z
    · exact E.cel i l a
    · cases z
  · rcases gl h1 with ⟨a, b⟩ | z
    · rcases gl h2 with ⟨a', b'⟩ | z
      · rw [b] at e1
        rw [b'] at e2
        exact E.apart i j s t _ _ p a a' h3 h4 e1 e2
      · rw [z] at h4; cases h4
    · rw [z] at h3; cases h3
theorem cells_of : ∀ {as : List Sl} {vs : List V} {Γ' : G} {σ' : St}, vs.length = as.length →
    (∀ (i : Nat) (s : Sl), as[i]? = some s → (∃ l, s = Sl.cell l ∧ ∃ (l' : List PyData) (p : Addr) (ws : List V), Γ'[i]? = some (Sl.cell l') ∧ vs[i]? = some (V.ref p) ∧ F' p = none ∧ H' p = some (.lst ws) ∧ Reps K F' ws l') ∨ ((∀ l, s ≠ Sl.cell l) ∧ ∀ l', Γ'[i]? ≠ some (Sl.cell l'))) →
    CellsR K F' H' vs as (cellsOf as.length Γ')
  | [], vs, Γ', σ', hl, _ => by
    cases vs with
    | nil => exact trivial
    | cons v vs => cases hl
  | s :: as, [], _, _, hl, _ => by cases hl
  | s :: as, v :: vs, [], σ', hl, h => by
    have ih := cells_of (as := as) (vs := vs) (Γ' := []) (σ' := σ') (by simpa using hl) fun i s' e => by
      rcases h (i + 1) s' (by simpa using e) with ⟨_, _, _, _, _, a1, _⟩ | q
      · simp at a1
      · exact .inr ⟨q.1, fun l' => by simp⟩
    rcases h 0 s rfl with ⟨_, _, _, _, _, a1, _⟩ | ⟨n1, n2⟩
    · simp at a1
    · have e1 : cellsOf as.length [] = [] := by simp [cellsOf]
      have e2 : cellsOf (s :: as).length [] = [] := by simp [cellsOf]
      rw [e1] at ih
      rw [e2]
      cases s with
      | cell l => exact absurd rfl (n1 l)
      | no => exact ih
      | v _ => exact ih
      | own _ => exact ih
  | s :: as, v :: vs, g :: Γ', σ', hl, h => by
    have ih := cells_of (as := as) (vs := vs) (Γ' := Γ') (σ' := σ') (by simpa using hl) fun i s' e => by
      have := h (i + 1) s' (by simpa using e)
      simpa using this
    rcases h 0 s rfl with ⟨l, e, l', p, ws, a1, a2, a3, a4, a5⟩ | ⟨n1, n2⟩
    · subst e
      have eg : g = Sl.cell l' := by simpa using a1
      subst eg
      have ev : v = V.ref p := by simpa using a2
      subst ev
      show CellsR K F' H' (V.ref p :: vs) (Sl.cell l :: as) (l' :: cellsOf as.length Γ')
      exact ⟨⟨p, ws, rfl, a3, a4, a5⟩, ih⟩
    · have eg : cellF g = none := by
        cases g with
        | cell l' => exact absurd rfl (n2 l')
        | _ => rfl
      have ec : cellsOf (s :: as).length (g :: Γ') = cellsOf as.length Γ' := by
        show ((g :: Γ').take (as.length + 1)).filterMap cellF = _
        rw [List.take_succ_cons, List.filterMap_cons, eg]
        rfl
      rw [ec]
      cases s with
      | cell l => exact absurd rfl (n1 l)
      | no => exact ih
      | v _ => exact ih
      | own _ => exact ih
end
section
variable {P : Program} {w : World} {K : PySem.W.Frag} {mg : Str → Option Value} {base : Heap}
theorem fn_end {N ps : List Str} {fs : FS} {u : WS} (len : ∀ as Q X, fs as Q X → as.length = ps.length) (wp : ∀ as Q X, fs as Q X → u (as ++ List.replicate (N.length - ps.length) Sl.no) (endP ps.length Q X)) {vs : List V} {H : Hp} {Q : VK} {E : XK} (h : spOf K mg fs vs H Q E) :
    liftS K mg (WD E) u { nx := fun _ H' => Q .non H', rt := Q } (L2.start N vs) H := by
  obtain ⟨pin, F, as, Q', X', E1, no, h1, hq, hx⟩ := h
  have la : as.length = ps.length := len _ _ _ h1
  have lv : vs.length = as.length := by
    have := E1.len
    rwa [List.length_map] at this
  have st0 : L2.start N vs = vs.map some ++ List.replicate (N.length - ps.length) none := by
    unfold L2.start
    rw [lv, la]
  rw [st0]
  refine ⟨⟨H, F, pin⟩, F, _, _, E1.pad _, wp as Q' X' h1, ?_⟩
  have cells : ∀ {σ' : St} {H' F' : Hp} {Γ' : G}, EnvR K ⟨H, F, pin⟩ F' H' σ' Γ' → CellsR K F' H' vs as (cellsOf ps.length Γ') := fun {σ' H' F' Γ'} E' => by
    rw [← la]
    refine cells_of (σ' := σ') lv fun i s' e => ?_
    have other : (∀ l, s' ≠ Sl.cell l) → ∀ l', Γ'[i]? ≠ some (Sl.cell l') := fun n l' z => by
      obtain ⟨p, hp⟩ := E'.cel i l' z
      obtain ⟨l1, b1, b2⟩ := E1.pin i p hp
      rw [e] at b1
      exact n _ (Option.some.inj b1)
    cases s' with
    | cell l =>
      refine .inl ⟨l, rfl, ?_⟩
      obtain ⟨p, hp⟩ := E1.cel i l e
      obtain ⟨l1, b1, b2⟩ := E1.pin i p hp
      obtain ⟨l', c1, c2⟩ := E'.pin i p hp
      obtain ⟨d1, ws, d2, d3⟩ := E'.muH c1 rfl c2
      have b3 : vs[i]? = some (V.ref p) := by
        rw [List.getElem?_map] at b2
        cases ev : vs[i]? with
        | none => rw [ev] at b2; cases b2
        | some v0 =>
          rw [ev] at b2
          have : (some (some v0) : Option (Option V)) = some (some (V.ref p)) := b2
          cases this
          rfl
      exact ⟨l', p, ws, c1, b3, d1, d2, d3⟩
    | no => exact .inr ⟨(fun l z => by cases z), other fun l z => by cases z⟩
    | v d => exact .inr ⟨(fun l z => by cases z), other fun l z => by cases z⟩
    | own d => exact .inr ⟨(fun l z => by cases z), other fun l z => by cases z⟩
  refine ⟨fun σ' H' F' Γ' s1 E' q => ?_, fun v r σ' H' F' Γ' s1 E' rr q => ?_, fun _ _ _ _ _ _ z => z.elim, fun _ _ _ _ _ _ z => z.elim, fun σ' x cls dd H' F' Γ' hxx s1 E' xr => ?_⟩
  · exact hq .non (.d .none) H' F' _ s1 E'.ex E'.keep E'.frz (cells E') rfl q
  · obtain ⟨ok, q⟩ := q
    refine hq v r H' F' _ s1 E'.ex E'.keep E'.frz (cells E') ?_ q
    cases r with
    | d x => exact rr
    | o l => obtain ⟨p, vs, e, h1, h2, h3, h4, _⟩ := rr; exact ⟨p, vs, e, h1, h2, h3, h4⟩
    | b i => exact ok.elim
  · exact hx x cls dd H' F' hxx s1 E'.ex E'.keep E'.frz xr
theorem fn_dl {x qual : Str} {st : Stmt} {f : Addr} {fd : FuncData} {N ps : List Str} {k : Nat} {fs : FS} {u : WS} (Fn : Fun K x qual st f fd) (S : FnScope N ps (defScope st)) (len : ∀ as Q X, fs as Q X → as.length = ps.length)
    (der : ∀ (cdv : Value) (A : Around) (outer : List Env) (s : Shared) (H : Hp) (E : XK), Room k (A.deeper (PyProof.Rows.envOfC qual (defScope st) s.heap.objs.size f cdv)) →
      DSs (cxOf (L2.CX P w) P w K mg base N qual (defScope st) f cdv A outer s H E) (WD E) (defBody st) u)
    (wp : ∀ as Q X, fs as Q X → u (as ++ List.replicate (N.length - ps.length) Sl.no) (endP ps.length Q X)) : FnOk P w K mg base (L2.CX P w) (k + 1) f fd ps (spOf K mg fs) := by
  refine Fn.okX S (fun vs H Q E h => ?_) (fun cdv A outer s H vs Q E hr h => ⟨_, (der cdv A outer s H E hr).pss, ?_⟩)
  · obtain ⟨pin, F, as, Q', X', E1, _, h1, _⟩ := h
    have := E1.len
    rw [List.length_map] at this
    rw [this]
    exact len _ _ _ h1
  · exact fn_end len wp h
end
end DL

namespace DL
open PySem L2
/-! ### what the built-in operations do to data -/
def fAdd : FP := fun x y Q => match x, y with
  | .int i, .int j => Q (.d (.int (i + j)))
  | .str a, .str b => a.length + b.length ≤ sizeLine ∧ Q (.d (.str (a ++ b)))
  | .list l, .list m => l.length + m.length ≤ sizeLine ∧ Q (.o (l ++ m))
  | .tuple l, .tuple m => l.length + m.length ≤ sizeLine ∧ Q (.d (.tuple (l ++ m)))
  | _, _ => False
def fInt (C : Int → Int → Prop) (g : Int → Int → Int) : FP := fun x y Q => match x, y with
  | .int i, .int j => C i j ∧ Q (.d (.int (g i j)))
  | _, _ => False
abbrev fSub : FP := fInt (fun _ _ => True) (· - ·)
abbrev fMul : FP := fInt CMul (· * ·)
abbrev fMod : FP := fInt (fun _ j => 0 < j) (· % ·)
abbrev fDiv : FP := fInt CDiv (· / ·)
abbrev fPow : FP := fInt CPow (fun i j => i ^ j.toNat)
def fCmp (gi : Int → Int → Bool) (gs : List Nat → List Nat → Bool) : FP := fun x y Q => match x, y with
  | .int i, .int j => Q (.d (.bool (gi i j)))
  | .str a, .str b => Q (.d (.bool (gs a.cps.toList b.cps.toList)))
  | _, _ => False
abbrev fLt : FP := fCmp (fun i j => decide (i < j)) (fun a b => decide (a < b))
abbrev fLe : FP := fCmp (fun i j => decide (i ≤ j)) (fun a b => !decide (b < a))
abbrev fGt : FP := fCmp (fun i j => decide (j < i)) (fun a b => decide (b < a))
abbrev fGe : FP := fCmp (fun i j => decide (j ≤ i)) (fun a b => !decide (a < b))
def scalD : PyData → PyData → Bool
  | .none, .none => true
  | .none, .int _ => true
  | .int _, .none => true
  | .none, .bool _ => true
  | .bool _, .none => true
  | .none, .str _ => true
  | .str _, .none => true
  | .int _, .int _ => true
  | .bool _, .bool _ => true
  | .str _, .str _ => true
  | .int _, .str _ => true
  | .str _, .int _ => true
  | .bool _, .str _ => true
  | .str _, .bool _ => true
  | _, _ => false
def eqOk (x y : PyData) : Prop := scalD x y = true ∨ (SeqAt.shaped x = true ∧ SeqAt.shaped y = true)
def fEq : FP := fun x y Q => eqOk x y ∧ Q (.d (.bool (PyData.eqv x y)))
def fNe : FP := fun x y Q => eqOk x y ∧ Q (.d (.bool (!PyData.eqv x y)))
def isNone : PyData → Bool
  | .none => true
  | _ => false
def fIsN : FP := fun x y Q => y = .none ∧ Q (.d (.bool (isNone x)))
def fNotN : FP := fun x y Q => y = .none ∧ Q (.d (.bool (!isNone x)))
def flat : PyData → Bool
  | .none => true
  | .bool _ => true
  | .int _ => true
  | .str _ => true
  | _ => false
def inD (x : PyData) (l : List PyData) : Bool := l.any fun y => PyData.eqv y x
def fIn (neg : Bool) : FP := fun x y Q => match y with
  | .list l => flat x = true ∧ l.all flat = true ∧ Q (.d (.bool (if neg then !inD x l else inD x l)))
  | .tuple l => flat x = true ∧ l.all flat = true ∧ Q (.d (.bool (if neg then !inD x l else inD x l)))
  | .str z => ∃ c, x = .str ⟨#[c]⟩ ∧ Q (.d (.bool (if neg then !decide (c ∈ z.cps.toList) else decide (c ∈ z.cps.toList))))
  | _ => False
def fIx : FP := fun x y Q => match x, y with
  | .list l, .int i => ∃ d, atI l i = some d ∧ Q (.d d)
  | .tuple l, .int i => ∃ d, atI l i = some d ∧ Q (.d d)
  | .str z, .int i => z.length ≤ sizeLine ∧ ∃ c, atI z.cps.toList i = some c ∧ Q (.d (.str ⟨#[c]⟩))
  | _, _ => False
def cutL (xs : List PyData) (lo hi : Option Int) : List PyData := (xs.drop (HT.sIx xs.length 0 lo)).take (HT.sIx xs.length xs.length hi - HT.sIx xs.length 0 lo)
def fSl : FSl := fun x lo hi Q => match x with
  | .list l => Q (.o (cutL l lo hi))
  | .tuple l => Q (.d (.tuple (cutL l lo hi)))
  | .str z => z.length ≤ sizeLine ∧ Q (.d (.str (cutS z lo hi)))
  | _ => False
def fLen : FL := fun xs Q => match xs with
  | [.list l] => Q (.d (.int (l.length : Int)))
  | [.tuple l] => Q (.d (.int (l.length : Int)))
  | [.str z] => z.length ≤ sizeLine ∧ Q (.d (.int (z.length : Int)))
  | _ => False
def fToInt : FL := fun xs Q => match xs with
  | [.int i] => Q (.d (.int i))
  | _ => False
def fToStr : FL := fun xs Q => match xs with
  | [.int i] => i.natAbs.log2 < 1920 ∧ Q (.d (.str (Str.ofString (toString i))))
  | _ => False
def fToTup : FL := fun xs Q => match xs with
  | [.list l] => Q (.d (.tuple l))
  | [.tuple l] => Q (.d (.tuple l))
  | _ => False
def fToLst : FL := fun xs Q => match xs with
  | [.list l] => Q (.o l)
  | [.tuple l] => Q (.o l)
  | _ => False
def bools : List PyData → Option (List Bool)
  | [] => some []
  | .bool b :: r => (bools r).map (b :: ·)
  | _ => none
def fAll : FL := fun xs Q => match xs with
  | [.list l] => ∃ bs, bools l = some bs ∧ Q (.d (.bool (bs.all id)))
  | _ => False
def fAny : FL := fun xs Q => match xs with
  | [.list l] => ∃ bs, bools l = some bs ∧ Q (.d (.bool (bs.any id)))
  | _ => False
section
open PyProof.Rows
variable {X : Cx}
theorem op_catL : OpR X (binaryOp .Add) (fun x y H Q => ∃ l b xs zs, x = .ref l ∧ y = .ref b ∧ SqL X.K H l xs ∧ SqL X.K H b zs ∧ xs.length + zs.length ≤ sizeLine ∧ ∀ p, H p = none → Q (.ref p) (upd H p (.lst (xs ++ zs)))) := by
  intro pins s σ H x y v u Q I rx ry h
  obtain ⟨l, b, xs, zs, rfl, rfl, hH, hB, hz, q⟩ := h
  cases rx
  cases ry
  obtain ⟨its, r, ⟨⟨c1, d1, dt1, sl1⟩, n1, e1, c1', d1', p1⟩, _⟩ := I.list hH
  obtain ⟨its2, r2, ⟨⟨c2, d2, dt2, sl2⟩, n2, e2, c2', d2', p2⟩, _⟩ := I.list hB
  simp only at c1' d1' p1 c2' d2' p2
  subst c1' d1' p1 c2' d2' p2
  have l1 := r.length
  have l2 := r2.length
  have ea : its.toArray ++ its2.toArray = (its ++ its2).toArray := by simp
  refine concat_meets ⟨_, e1, rfl⟩ ⟨_, e2, rfl⟩ noFill_list_add seq_list_add PySem.F.slot_list_add PySem.F.entry_list_add (PySem.F.args_list_add_2 _ _) (list_addW l b its.toArray its2.toArray n1 n2 _ _ sl1 sl2 (by simp; omega)) ⟨e1, e2, ?_⟩
  rw [ea]
  exact ⟨.ref _, _, I.lnew (t' := s.toks) (r.append r2) (by rw [List.length_append]; omega), rfl, q _ I.fresh⟩
end
section
variable {X : Cx} {K : PySem.W.Frag} {B : Bs} {F H : Hp} {σ : St} {Γ : G}
def rAdd : V → V → Hp → VK → Prop := rI0 fun i j => .int (i + j)
def rAddS : V → V → Hp → VK → Prop := fun x y H Q => ∃ i j, x = .str i ∧ y = .str j ∧ i.length + j.length ≤ sizeLine ∧ Q (.str (i ++ j)) H
def rAddL (K : PySem.W.Frag) : V → V → Hp → VK → Prop := fun x y H Q => ∃ l b xs zs, x = .ref l ∧ y = .ref b ∧ SqL K H l xs ∧ SqL K H b zs ∧ xs.length + zs.length ≤ sizeLine ∧ ∀ p, H p = none → Q (.ref p) (upd H p (.lst (xs ++ zs)))
def rAddU (K : PySem.W.Frag) : R2 := fun x y H Q => rAdd x y H Q ∨ rAddS x y H Q ∨ rAddL K x y H Q ∨ rCatA K x y H Q
theorem op_addU : OpR X (binaryOp .Add) (rAddU X.K) := op_add.or (op_add_str.or (op_catL.or op_catA))
theorem p_add : P2 K (rAddU K) fAdd := fun B F H σ Γ u v x y Q Kn E hx hy hf k => by
  cases x <;> cases y <;> first | exact hf.elim | skip
  case int.int i j => exact .inl ⟨i, j, hx, hy, k _ (.d (.int (i + j))) H F (Same.id F) E rfl hf⟩
  case str.str a b => exact .inr (.inl ⟨a, b, hx, hy, hf.1, k _ (.d (.str (a ++ b))) H F (Same.id F) E rfl hf.2⟩)
  case list.list l m =>
    obtain ⟨a, vs, e1, h1, h2⟩ := hx
    obtain ⟨b, ws, e2, h3, h4⟩ := hy
    have rp := h2.append h4
    refine .inr (.inr (.inl ⟨a, b, vs, ws, e1, e2, h1, h3, by rw [h2.len, h4.len]; exact hf.1, fun p hp => k _ (.o (l ++ m)) _ F (Same.id F) (E.layH hp) (rr_new E hp rp) hf.2⟩))
  case tuple.tuple l m =>
    obtain ⟨a, vs, e1, h1, h2⟩ := hx
    obtain ⟨b, ws, e2, h3, h4⟩ := hy
    refine .inr (.inr (.inr ⟨a, b, vs, ws, e1, e2, sqt_mono E.ex h1, sqt_mono E.ex h3, by rw [h2.len, h4.len]; exact hf.1, fun z => ?_, fun z z2 => ?_, fun z z2 p hp => ?_⟩))
    · subst z
      have : l = [] := List.eq_nil_of_length_eq_zero (by rw [← h2.len]; rfl)
      subst this
      exact k _ (.d (.tuple ([] ++ m))) H F (Same.id F) E ⟨b, ws, rfl, h3, h4⟩ hf.2
    · subst z2
      have : m = [] := List.eq_nil_of_length_eq_zero (by rw [← h4.len]; rfl)
      subst this
      exact k _ (.d (.tuple (l ++ []))) H F (Same.id F) E (by rw [List.append_nil]; exact ⟨a, vs, rfl, h1, h2⟩) hf.2
    · exact k _ (.d (.tuple (l ++ m))) _ _ (same_upd (none_back E.ex hp)) (E.lay hp) (rep_tup (none_back E.ex hp) (h2.append h4)) hf.2
theorem p_int {C : Int → Int → Prop} {g : Int → Int → Int} : P2 K (rI C fun i j => .int (g i j)) (fInt C g) := fun B F H σ Γ u v x y Q Kn E hx hy hf k => by
  cases x <;> cases y <;> first | exact hf.elim | skip
  case int.int i j => exact ⟨i, j, hx, hy, hf.1, k _ (.d (.int (g i j))) H F (Same.id F) E rfl hf.2⟩
theorem op_subC : OpR X (binaryOp .Sub) (rI (fun _ _ => True) fun i j => .int (i - j)) := fun pins s σ H x y v u Q I rx ry ⟨i, j, a, b, _, q⟩ => op_sub pins s σ H x y v u Q I rx ry ⟨i, j, a, b, q⟩
def rCmpU (gi : Int → Int → Bool) (gs : List Nat → List Nat → Bool) : R2 := fun x y H Q => (rI0 fun i j => .bl (gi i j)) x y H Q ∨ ∃ i j, x = .str i ∧ y = .str j ∧ Q (.bl (gs i.cps.toList j.cps.toList)) H
theorem p_cmp {gi : Int → Int → Bool} {gs : List Nat → List Nat → Bool} : P2 K (rCmpU gi gs) (fCmp gi gs) := fun B F H σ Γ u v x y Q Kn E hx hy hf k => by
  cases x <;> cases y <;> first | exact hf.elim | skip
  case int.int i j => exact .inl ⟨i, j, hx, hy, k _ (.d (.bool _)) H F (Same.id F) E rfl hf⟩
  case str.str i j => exact .inr ⟨i, j, hx, hy, k _ (.d (.bool _)) H F (Same.id F) E rfl hf⟩
theorem op_ltU : OpR X (compareOp .Lt) (rCmpU (fun i j => decide (i < j)) (fun a b => decide (a < b))) := op_lt.or op_lt_str
theorem op_leU : OpR X (compareOp .LtE) (rCmpU (fun i j => decide (i ≤ j)) (fun a b => !decide (b < a))) := op_le.or op_le_str
theorem op_gtU : OpR X (compareOp .Gt) (rCmpU (fun i j => decide (j < i)) (fun a b => decide (b < a))) := op_gt.or op_gt_str
theorem op_geU : OpR X (compareOp .GtE) (rCmpU (fun i j => decide (j ≤ i)) (fun a b => !decide (a < b))) := op_ge.or op_ge_str
mutual
theorem rep_dp (H : Hp) : ∀ (d : PyData) (v : V), d.canLay0 = true → Rep K H v d → Dp K H v d
  | .none, v, _, h => by rw [show v = .non from h]; exact .non
  | .bool b, v, _, h => by rw [show v = .bl b from h]; exact .bl b
  | .int i, v, _, h => by rw [show v = .int i from h]; exact .int i
  | .str x, v, _, h => by rw [show v = .str x from h]; exact .str x
  | .list l, v, c, ⟨a, vs, e, h1, h2⟩ => by rw [e]; exact .lst h1 (reps_dp H l vs (by simpa [PyData.canLay0] using c) h2)
  | .tuple l, v, c, ⟨a, vs, e, h1, h2⟩ => by rw [e]; exact .tup h1 (reps_dp H l vs (by simpa [PyData.canLay0] using c) h2)
  | .dict l, v, c, _ => by simp [PyData.canLay0] at c
theorem reps_dp (H : Hp) : ∀ (l : List PyData) (vs : List V), PyData.canLayAll0 l = true → Reps K H vs l → DpAll K H vs l
  | [], vs, _, h => by rw [show vs = [] from h]; exact .nil
  | d :: ds, vs, c, ⟨v, r, e, h1, h2⟩ => by
    have c' : d.canLay0 = true ∧ PyData.canLayAll0 ds = true := by simpa [PyData.canLayAll0] using c
    rw [e]; exact .cons (rep_dp H d v c'.1 h1) (reps_dp H ds r c'.2 h2)
end
theorem scal_rep {H : Hp} {x y : PyData} {u v : V} (h : scalD x y = true) (hx : Sh K F H u x) (hy : Sh K F H v y) : scal u v = true ∧ decide (u = v) = PyData.eqv x y := by
  cases x <;> cases y <;> first | (cases h; done) | skip
  all_goals
    rw [show u = _ from hx, show v = _ from hy]
    refine ⟨rfl, ?_⟩
    simp [PyData.eqv, Bool.beq_eq_decide_eq]
def rEqU (K : PySem.W.Frag) : R2 := fun x y H Q => rEq x y H Q ∨ rEqD K x y H Q
def rNeU (K : PySem.W.Frag) : R2 := fun x y H Q => rNe x y H Q ∨ rNeD K x y H Q
theorem op_eqU (hu : X.A.units + 64 < cLine) : OpR X (compareOp .Eq) (rEqU X.K) := op_eq.or (op_eqD hu)
theorem op_neU (hu : X.A.units + 64 < cLine) : OpR X (compareOp .NotEq) (rNeU X.K) := op_ne.or (op_neD hu)
theorem p_eq : P2 K (rEqU K) fEq := fun B F H σ Γ u v x y Q Kn E hx hy hf k => by
  obtain ⟨ok, q⟩ := hf
  rcases ok with h | ⟨s1, s2⟩
  · obtain ⟨a, b⟩ := scal_rep h hx hy
    exact .inl ⟨a, by rw [b]; exact k _ (.d (.bool _)) H F (Same.id F) E rfl q⟩
  · exact .inr ⟨x, y, rep_dp H x u (SeqAt.canLay_of_shaped s1) (hx.rep E.ex), rep_dp H y v (SeqAt.canLay_of_shaped s2) (hy.rep E.ex), s1, s2, k _ (.d (.bool _)) H F (Same.id F) E rfl q⟩
theorem p_ne : P2 K (rNeU K) fNe := fun B F H σ Γ u v x y Q Kn E hx hy hf k => by
  obtain ⟨ok, q⟩ := hf
  rcases ok with h | ⟨s1, s2⟩
  · obtain ⟨a, b⟩ := scal_rep h hx hy
    exact .inl ⟨a, by rw [b]; exact k _ (.d (.bool _)) H F (Same.id F) E rfl q⟩
  · exact .inr ⟨x, y, rep_dp H x u (SeqAt.canLay_of_shaped s1) (hx.rep E.ex), rep_dp H y v (SeqAt.canLay_of_shaped s2) (hy.rep E.ex), s1, s2, k _ (.d (.bool _)) H F (Same.id F) E rfl q⟩
theorem sh_none {H : Hp} {x : PyData} {u : V} (hx : Sh K F H u x) : decide (u = .non) = isNone x := by
  cases x with
  | none => rw [show u = _ from hx]; rfl
  | bool b => rw [show u = _ from hx]; rfl
  | int b => rw [show u = _ from hx]; rfl
  | str b => rw [show u = _ from hx]; rfl
  | list l => obtain ⟨a, vs, e, _⟩ := hx; rw [e]; rfl
  | tuple l => obtain ⟨a, vs, e, _⟩ := hx; rw [e]; rfl
  | dict l => obtain ⟨a, vs, e, _⟩ := hx; rw [e]; rfl
theorem p_isN : P2 K (fun x y H Q => y = .non ∧ Q (.bl (decide (x = .non))) H) fIsN := fun B F H σ Γ u v x y Q Kn E hx hy hf k => by
  obtain ⟨e, q⟩ := hf
  subst e
  exact ⟨hy, by rw [sh_none hx]; exact k _ (.d (.bool _)) H F (Same.id F) E rfl q⟩
theorem p_notN : P2 K (fun x y H Q => y = .non ∧ Q (.bl (!decide (x = .non))) H) fNotN := fun B F H σ Γ u v x y Q Kn E hx hy hf k => by
  obtain ⟨e, q⟩ := hf
  subst e
  exact ⟨hy, by rw [sh_none hx]; exact k _ (.d (.bool _)) H F (Same.id F) E rfl q⟩
/-! ### in -/
theorem flat_rep {H : Hp} {x : PyData} {u : V} (f : flat x = true) (h : Rep K H u x) : flatV u = true := by
  cases x with
  | none => rw [show u = _ from h]; rfl
  | bool b => rw [show u = _ from h]; rfl
  | int b => rw [show u = _ from h]; rfl
  | str b => rw [show u = _ from h]; rfl
  | list l => cases f
  | tuple l => cases f
  | dict l => cases f
theorem eqV_rep {H : Hp} {x y : PyData} {u v : V} (fx : flat x = true) (fy : flat y = true) (hx : Rep K H u x) (hy : Rep K H v y) : eqV u v = PyData.eqv x y := by
  cases x <;> first | (exact Bool.noConfusion (show false = true from fx)) | skip
  all_goals cases y <;> first | (exact Bool.noConfusion (show false = true from fy)) | skip
  all_goals
    rw [show u = _ from hx, show v = _ from hy]
    first | rfl | (simp [eqV, PyData.eqv, Bool.beq_eq_decide_eq]; done) | (simp [eqV, PyData.eqv])
theorem in_rep {H : Hp} {x : PyData} {u : V} (fx : flat x = true) (hx : Rep K H u x) : ∀ {l : List PyData} {vs : List V}, l.all flat = true → Reps K H vs l → vs.all flatV = true ∧ inV u vs = inD x l
  | [], vs, _, h => by rw [show vs = [] from h]; exact ⟨rfl, rfl⟩
  | d :: ds, vs, f, ⟨v, r, e, h1, h2⟩ => by
    subst e
    rw [List.all_cons, Bool.and_eq_true] at f
    obtain ⟨a, b⟩ := in_rep fx hx f.2 h2
    refine ⟨by rw [List.all_cons, a, flat_rep f.1 h1]; rfl, ?_⟩
    show (eqV v u || inV u r) = (PyData.eqv d x || inD x ds)
    rw [b, eqV_rep f.1 fx h1 hx]
def rInU (K : PySem.W.Frag) (neg : Bool) : R2 := fun x y H Q => rIn K neg x y H Q ∨ ∃ (c : Nat) (z : Str), x = .str ⟨#[c]⟩ ∧ y = .str z ∧ Q (.bl (if neg then !decide (c ∈ z.cps.toList) else decide (c ∈ z.cps.toList))) H
theorem op_inU : OpR X (compareOp .In) (rInU X.K false) := op_in_seq.or fun pins s σ H x y v u Q I rx ry ⟨c, z, a, b, q⟩ => op_in_sign pins s σ H x y v u Q I rx ry ⟨c, z, a, b, q⟩
theorem op_ninU : OpR X (compareOp .NotIn) (rInU X.K true) := op_notIn_seq.or fun pins s σ H x y v u Q I rx ry ⟨c, z, a, b, q⟩ => op_notIn_sign pins s σ H x y v u Q I rx ry ⟨c, z, a, b, q⟩
theorem p_in {neg : Bool} : P2 K (rInU K neg) (fIn neg) := fun B F H σ Γ u v x y Q Kn E hx hy hf k => by
  cases y with
  | list l =>
    obtain ⟨f1, f2, q⟩ := hf
    obtain ⟨a, vs, e, h1, h2⟩ := hy
    obtain ⟨g1, g2⟩ := in_rep f1 (hx.rep E.ex) f2 (Reps.mono E.ex _ _ h2)
    exact .inl ⟨a, vs, e, .inl h1, flat_rep f1 (hx.rep E.ex), g1, by rw [g2]; exact k _ (.d (.bool _)) H F (Same.id F) E rfl q⟩
  | tuple l =>
    obtain ⟨f1, f2, q⟩ := hf
    obtain ⟨a, vs, e, h1, h2⟩ := hy
    obtain ⟨g1, g2⟩ := in_rep f1 (hx.rep E.ex) f2 (Reps.mono E.ex _ _ h2)
    exact .inl ⟨a, vs, e, .inr (sqt_mono E.ex h1), flat_rep f1 (hx.rep E.ex), g1, by rw [g2]; exact k _ (.d (.bool _)) H F (Same.id F) E rfl q⟩
  | str z =>
    obtain ⟨c, e, q⟩ := hf
    subst e
    exact .inr ⟨c, z, hx, hy, k _ (.d (.bool _)) H F (Same.id F) E rfl q⟩
  | _ => exact hf.elim
/-! ### items, slices -/
theorem atI_rep {H : Hp} {l : List PyData} {vs : List V} {i : Int} {d : PyData} (r : Reps K H vs l) (h : atI l i = some d) : ∃ v, atI vs i = some v ∧ Rep K H v d := by
  unfold atI at h ⊢
  rw [r.len]
  cases e : ixN l.length i with
  | none => rw [e] at h; cases h
  | some j =>
    rw [e] at h
    exact r.get h
theorem p_ix : P2 K (rIx K) fIx := fun B F H σ Γ u v x y Q Kn E hx hy hf k => by
  cases x <;> cases y <;> first | exact hf.elim | skip
  case list.int l i =>
    obtain ⟨d, e, q⟩ := hf
    obtain ⟨a, vs, e1, h1, h2⟩ := hx
    obtain ⟨w, g1, g2⟩ := atI_rep h2 e
    exact .inl ⟨a, vs, i, w, e1, hy, h1, g1, k w (.d d) H F (Same.id F) E g2 q⟩
  case tuple.int l i =>
    obtain ⟨d, e, q⟩ := hf
    obtain ⟨a, vs, e1, h1, h2⟩ := hx
    obtain ⟨w, g1, g2⟩ := atI_rep h2 e
    exact .inr (.inl ⟨a, vs, i, w, e1, hy, sqt_mono E.ex h1, g1, k w (.d d) H F (Same.id F) E g2 q⟩)
  case str.int z i =>
    obtain ⟨hz, c, e, q⟩ := hf
    exact .inr (.inr ⟨z, i, c, hx, hy, hz, e, k _ (.d (.str ⟨#[c]⟩)) H F (Same.id F) E rfl q⟩)
theorem cut_rep {H : Hp} {l : List PyData} {vs : List V} {lo hi : Option Int} (r : Reps K H vs l) : Reps K H (cutV vs lo hi) (cutL l lo hi) := by
  unfold cutV cutL
  rw [r.len]
  exact (r.drop _).take _
def rSlU (K : PySem.W.Frag) : V → Option Int → Option Int → Hp → VK → Prop := fun x lo hi H Q => rSlL K x lo hi H Q ∨ rSlA K x lo hi H Q ∨ rSlS x lo hi H Q
theorem sl_U : SlR X (rSlU X.K) := sl_list.or (sl_tupA.or sl_str)
theorem p_sl : PSl K (rSlU K) fSl := fun B F H σ Γ u x lo hi Q Kn E hx hf k => by
  cases x with
  | list l =>
    obtain ⟨a, vs, e1, h1, h2⟩ := hx
    exact .inl ⟨a, vs, e1, h1, fun p hp => k _ (.o (cutL l lo hi)) _ F (Same.id F) (E.layH hp) (rr_new E hp (cut_rep h2)) hf⟩
  | tuple l =>
    obtain ⟨a, vs, e1, h1, h2⟩ := hx
    refine .inr (.inl ⟨a, vs, e1, sqt_mono E.ex h1, fun z => ?_, fun z p hp => k _ (.d (.tuple (cutL l lo hi))) _ _ (same_upd (none_back E.ex hp)) (E.lay hp) (rep_tup (none_back E.ex hp) (cut_rep h2)) hf⟩)
    have : cutL l lo hi = l := by
      unfold cutL
      rw [← h2.len, z.1, z.2, h2.len]
      simp
    have hf' : Q (.d (.tuple (cutL l lo hi))) := hf
    rw [this] at hf'
    exact k _ (.d (.tuple l)) H F (Same.id F) E ⟨a, vs, rfl, h1, h2⟩ hf'
  | str z => exact .inr (.inr ⟨z, hx, hf.1, k _ (.d (.str _)) H F (Same.id F) E rfl hf.2⟩)
  | _ => exact hf.elim
end
end DL

namespace DL
open PySem L2
section
variable {X : Cx} {K : PySem.W.Frag} {B : Bs} {F H : Hp} {σ : St} {Γ : G}
theorem Shs.one {vs : List V} {d : PyData} (h : Shs K F H vs [d]) : ∃ v, vs = [v] ∧ Sh K F H v d := by
  obtain ⟨v, r, e, h1, h2⟩ := h
  rw [show r = [] from h2] at e
  exact ⟨v, e, h1⟩
def rLenU (K : PySem.W.Frag) : List V → Hp → VK → Prop := fun xs H Q => (∃ p ys, xs = [.ref p] ∧ (SqL K H p ys ∨ SqT K H p ys) ∧ Q (.int ys.length) H) ∨ ∃ z, xs = [.str z] ∧ z.length ≤ sizeLine ∧ Q (.int z.length) H
theorem call_lenU : CallR X (.builtin "len") (rLenU X.K) := call_len_seq.or call_len_str
theorem p_len : PL K (rLenU K) fLen := fun B F H σ Γ vs xs Q Kn E h hf k => by
  unfold fLen at hf
  split at hf
  · rename_i l
    obtain ⟨v, e, a, ws, e1, h1, h2⟩ := h.one
    subst e1
    exact .inl ⟨a, ws, e, .inl h1, by rw [h2.len]; exact k _ (.d (.int _)) H F (Same.id F) E rfl hf⟩
  · rename_i l
    obtain ⟨v, e, a, ws, e1, h1, h2⟩ := h.one
    subst e1
    exact .inl ⟨a, ws, e, .inr (sqt_mono E.ex h1), by rw [h2.len]; exact k _ (.d (.int _)) H F (Same.id F) E rfl hf⟩
  · rename_i z
    obtain ⟨v, e, h1⟩ := h.one
    rw [show v = .str z from h1] at e
    exact .inr ⟨z, e, hf.1, k _ (.d (.int _)) H F (Same.id F) E rfl hf.2⟩
  · exact hf.elim
theorem p_toInt : PL K (fun xs H Q => (∃ i, xs = [.int i] ∧ Q (.int i) H) ∨ ∃ k, xs = [.bl k] ∧ Q (.int (if k then 1 else 0)) H) fToInt := fun B F H σ Γ vs xs Q Kn E h hf k => by
  unfold fToInt at hf
  split at hf
  · rename_i i
    obtain ⟨v, e, h1⟩ := h.one
    rw [show v = .int i from h1] at e
    exact .inl ⟨i, e, k _ (.d (.int _)) H F (Same.id F) E rfl hf⟩
  · exact hf.elim
theorem p_toStr : PL K (fun xs H Q => ∃ i, xs = [.int i] ∧ i.natAbs.log2 < 1920 ∧ Q (.str (toString i)) H) fToStr := fun B F H σ Γ vs xs Q Kn E h hf k => by
  unfold fToStr at hf
  split at hf
  · rename_i i
    obtain ⟨v, e, h1⟩ := h.one
    rw [show v = .int i from h1] at e
    exact ⟨i, e, hf.1, k _ (.d (.str _)) H F (Same.id F) E rfl hf.2⟩
  · exact hf.elim
theorem p_toTup : PL K (fun xs H Q => ∃ p ys, xs = [.ref p] ∧ ((SqL K H p ys ∧ ∀ l, H l = none → Q (.ref l) (upd H l (.tup ys))) ∨ (SqT K H p ys ∧ Q (.ref p) H))) fToTup := fun B F H σ Γ vs xs Q Kn E h hf k => by
  unfold fToTup at hf
  split at hf
  · rename_i l
    obtain ⟨v, e, a, ws, e1, h1, h2⟩ := h.one
    subst e1
    exact ⟨a, ws, e, .inl ⟨h1, fun p hp => k _ (.d (.tuple l)) _ _ (same_upd (none_back E.ex hp)) (E.lay hp) (rep_tup (none_back E.ex hp) h2) hf⟩⟩
  · rename_i l
    obtain ⟨v, e, a, ws, e1, h1, h2⟩ := h.one
    subst e1
    exact ⟨a, ws, e, .inr ⟨sqt_mono E.ex h1, k _ (.d (.tuple l)) H F (Same.id F) E ⟨a, ws, rfl, h1, h2⟩ hf⟩⟩
  · exact hf.elim
theorem p_toLst : PL K (fun xs H Q => ∃ p ys, xs = [.ref p] ∧ (SqL K H p ys ∨ SqT K H p ys) ∧ ∀ l, H l = none → Q (.ref l) (upd H l (.lst ys))) fToLst := fun B F H σ Γ vs xs Q Kn E h hf k => by
  unfold fToLst at hf
  split at hf
  · rename_i l
    obtain ⟨v, e, a, ws, e1, h1, h2⟩ := h.one
    subst e1
    exact ⟨a, ws, e, .inl h1, fun p hp => k _ (.o l) _ F (Same.id F) (E.layH hp) (rr_new E hp h2) hf⟩
  · rename_i l
    obtain ⟨v, e, a, ws, e1, h1, h2⟩ := h.one
    subst e1
    exact ⟨a, ws, e, .inr (sqt_mono E.ex h1), fun p hp => k _ (.o l) _ F (Same.id F) (E.layH hp) (rr_new E hp h2) hf⟩
  · exact hf.elim
theorem reps_bools : ∀ {l : List PyData} {vs : List V} {bs : List Bool}, Reps K F vs l → bools l = some bs → vs = bs.map V.bl
  | [], vs, bs, h, e => by cases e; exact h
  | .bool b :: l, vs, bs, ⟨v, r, e1, h1, h2⟩, e => by
    have e' : (bools l).map (b :: ·) = some bs := e
    cases q : bools l with
    | none => rw [q] at e'; cases e'
    | some cs =>
      rw [q] at e'
      cases e'
      rw [e1, show v = .bl b from h1, reps_bools h2 q]
      rfl
  | .none :: _, _, _, _, e => by cases e
  | .int _ :: _, _, _, _, e => by cases e
  | .str _ :: _, _, _, _, e => by cases e
  | .list _ :: _, _, _, _, e => by cases e
  | .tuple _ :: _, _, _, _, e => by cases e
  | .dict _ :: _, _, _, _, e => by cases e
theorem p_all : PL K (rAll K) fAll := fun B F H σ Γ vs xs Q Kn E h hf k => by
  unfold fAll at hf
  split at hf
  · rename_i l
    obtain ⟨bs, eb, q⟩ := hf
    obtain ⟨v, e, a, ws, e1, h1, h2⟩ := h.one
    subst e1
    rw [reps_bools h2 eb] at h1
    exact ⟨a, bs, e, h1, k _ (.d (.bool _)) H F (Same.id F) E rfl q⟩
  · exact hf.elim
theorem p_any : PL K (rAny K) fAny := fun B F H σ Γ vs xs Q Kn E h hf k => by
  unfold fAny at hf
  split at hf
  · rename_i l
    obtain ⟨bs, eb, q⟩ := hf
    obtain ⟨v, e, a, ws, e1, h1, h2⟩ := h.one
    subst e1
    rw [reps_bools h2 eb] at h1
    exact ⟨a, bs, e, h1, k _ (.d (.bool _)) H F (Same.id F) E rfl q⟩
  · exact hf.elim
/-! ### isinstance -/
def tyS : PyData → String
  | .none => "NoneType"
  | .bool _ => "bool"
  | .int _ => "int"
  | .str _ => "str"
  | .list _ => "list"
  | .tuple _ => "tuple"
  | .dict _ => "dict"
def isA (c : String) (d : PyData) : Bool := tyS d == c || (c == "int" && tyS d == "bool")
theorem kit_all (a : String) (c : String) (ha : a ∈ ["NoneType", "bool", "int", "str", "list", "tuple", "dict"]) (hc : c ∈ ["bool", "int", "str", "list", "tuple", "dict"]) : kitB a c = some (a == c || (c == "int" && a == "bool")) := by
  simp only [List.mem_cons, List.not_mem_nil, or_false] at ha hc
  rcases ha with rfl | rfl | rfl | rfl | rfl | rfl | rfl <;> rcases hc with rfl | rfl | rfl | rfl | rfl | rfl <;> decide +kernel
theorem tyS_mem (d : PyData) : tyS d ∈ ["NoneType", "bool", "int", "str", "list", "tuple", "dict"] := by cases d <;> simp [tyS]
theorem sh_ty {d : PyData} {v : V} (h : Rep K H v d) : TyX K H v (.type (tyS d)) := by
  cases d with
  | none => rw [show v = _ from h]; exact .base .non
  | bool b => rw [show v = _ from h]; exact .base (.bl b)
  | int b => rw [show v = _ from h]; exact .base (.int b)
  | str b => rw [show v = _ from h]; exact .base (.str b)
  | list l =>
    obtain ⟨a, vs, e, h1, h2⟩ := h
    rw [e]
    rcases h1 with (h1 | ⟨o, h1⟩) | ⟨o, its, n, hk, hc, _⟩
    · exact .base (.lst h1)
    · exact .base (.frz h1)
    · exact .kList hk hc
  | tuple l =>
    obtain ⟨a, vs, e, h1, h2⟩ := h
    rw [e]
    rcases h1 with (h1 | ⟨o, h1⟩) | ⟨o, its, n, hk, hc, _⟩
    · exact .base (.tup h1)
    · exact .fTuple h1
    · exact .kTuple hk hc
  | dict l => obtain ⟨a, vs, e, h1, h2⟩ := h; rw [e]; exact .base (.dK h1)
def wIsi (w : WE) (c : String) : WE := fun Γ Q X => w Γ (fun r Γ1 => match rd Γ1 r with
  | some d => Q (.d (.bool (isA c d))) Γ1
  | none => False) X
def wIsi2 (w : WE) (c c' : String) : WE := fun Γ Q X => w Γ (fun r Γ1 => match rd Γ1 r with
  | some d => Q (.d (.bool (isA c d || isA c' d))) Γ1
  | none => False) X
end
section
variable {X : Cx} {W : WX} {p pc pos : Pos} {e : Expr} {w : WE}
theorem de_isi {c : String} (he : DE X W e w) (hc : c ∈ ["bool", "int", "str", "list", "tuple", "dict"]) {x : Str} (hx : bootBuiltins x = some (.type c)) (hmx : X.mg x = none) (hm : X.mg "isinstance" = none) (hg : Gl X "isinstance" := by rfl) (hgx : Gl X x := by rfl)
    (hn : x ≠ "__name__" := by decide) (hdb : (x == ("__debug__" : Str)) = false := by decide)
    (h1 : starEach [e, .Name x pc] X.env = (false, eval e X.env) :: starEach [.Name x pc] X.env := by rfl) (h2 : starEach [.Name x pc] X.env = (false, eval (.Name x pc) X.env) :: starEach [] X.env := by rfl) (hpl : (backTo pos (starEach [.Name x pc] X.env)).any (·.1) = false := by rfl) :
    DE X W (.Call (.Name "isinstance" p) [e, .Name x pc] [] pos) (wIsi w c) :=
  de_of (pe_callB call_isi hg hm (by decide +kernel) (pa_cons he.pe (pa_cons (pe_bltn (v := .ty c) hgx hmx hx rfl hn hdb) pa_nil h2) h1) (by decide) (by decide) h1 hpl) fun σ H Kn ⟨B, F, Γ, Q, Xq, E, hw, k, kx⟩ => ⟨B, F, Γ, _, Xq, E, hw, fun v r H1 F1 Γ1 s1 E1 rr q => by
    have q' : match rd Γ1 r with
      | some d => Q (.d (.bool (isA c d))) Γ1
      | none => False := q
    cases ex : rd Γ1 r with
    | none => rw [ex] at q'; exact q'.elim
    | some d =>
      rw [ex] at q'
      exact ⟨v, .ty c, .type (tyS d), .type c, isA c d, rfl, .ty c, sh_ty ((E1.sh rr ex).rep E1.ex), kit_ty (kit_all _ _ (tyS_mem d) hc), k _ (.d (.bool _)) H1 F1 Γ1 s1 E1 rfl q'⟩, kx⟩
theorem de_isi2 {c c' : String} (he : DE X W e w) (hc : c ∈ ["bool", "int", "str", "list", "tuple", "dict"]) (hc' : c' ∈ ["bool", "int", "str", "list", "tuple", "dict"]) {x x' : Str} {pc' pt : Pos} {kt} (hx : bootBuiltins x = some (.type c)) (hx' : bootBuiltins x' = some (.type c')) (hmx : X.mg x = none) (hmx' : X.mg x' = none)
    (hm : X.mg "isinstance" = none) (hg : Gl X "isinstance" := by rfl) (hgx : Gl X x := by rfl) (hgx' : Gl X x' := by rfl)
    (hn : x ≠ "__name__" := by decide) (hdb : (x == ("__debug__" : Str)) = false := by decide) (hn' : x' ≠ "__name__" := by decide) (hdb' : (x' == ("__debug__" : Str)) = false := by decide)
    (h1 : starEach [e, .Tuple [.Name x pc, .Name x' pc'] kt pt] X.env = (false, eval e X.env) :: starEach [.Tuple [.Name x pc, .Name x' pc'] kt pt] X.env := by rfl)
    (h2 : starEach [.Tuple [.Name x pc, .Name x' pc'] kt pt] X.env = (false, eval (.Tuple [.Name x pc, .Name x' pc'] kt pt) X.env) :: starEach [] X.env := by rfl) (hpl : (backTo pos (starEach [.Tuple [.Name x pc, .Name x' pc'] kt pt] X.env)).any (·.1) = false := by rfl)
    (h3 : starEach [.Name x pc, .Name x' pc'] X.env = (false, eval (.Name x pc) X.env) :: starEach [.Name x' pc'] X.env := by rfl) (h4 : starEach [.Name x' pc'] X.env = (false, eval (.Name x' pc') X.env) :: starEach [] X.env := by rfl) :
    DE X W (.Call (.Name "isinstance" p) [e, .Tuple [.Name x pc, .Name x' pc'] kt pt] [] pos) (wIsi2 w c c') :=
  de_of (pe_callB call_isiT hg hm (by decide +kernel) (pa_cons he.pe (pa_cons (pe_tup (pa_cons (pe_bltn (v := .ty c) hgx hmx hx rfl hn hdb) (pa_cons (pe_bltn (v := .ty c') hgx' hmx' hx' rfl hn' hdb') pa_nil h4) h3)) pa_nil h2) h1) (by decide) (by decide) h1 hpl)
    fun σ H Kn ⟨B, F, Γ, Q, Xq, E, hw, k, kx⟩ => ⟨B, F, Γ, _, Xq, E, hw, fun v r H1 F1 Γ1 s1 E1 rr q => by
    have q' : match rd Γ1 r with
      | some d => Q (.d (.bool (isA c d || isA c' d))) Γ1
      | none => False := q
    cases ex : rd Γ1 r with
    | none => rw [ex] at q'; exact q'.elim
    | some d =>
      rw [ex] at q'
      refine ⟨by show 2 ≤ sizeLine; decide, fun tp htp => ?_⟩
      have E2 : EnvR X.K B (upd F1 tp (.tup [.ty c, .ty c'])) (upd H1 tp (.tup [.ty c, .ty c'])) σ Γ1 := E1.lay htp
      have s2 := same_upd (o := .tup [.ty c, .ty c']) (none_back E1.ex htp)
      refine ⟨v, tp, [.ty c, .ty c'], .type (tyS d), [.type c, .type c'], isA c d || isA c' d, rfl, upd_same, .cons (.ty c) (.cons (.ty c') .nil), ?_, ?_, k _ (.d (.bool _)) _ _ Γ1 (s1.trans s2) E2 rfl q'⟩
      · exact sh_ty (Rep.mono (same_upd htp) _ _ ((E1.sh rr ex).rep E1.ex))
      · refine kitAny_cons (kit_ty (kit_all _ _ (tyS_mem d) hc)) (fun e => ?_) fun e => ?_
        · refine kitAny_cons (kit_ty (kit_all _ _ (tyS_mem d) hc')) (fun e' => ?_) fun e' => ?_
          · have e1 : isA c d = false := e
            have e2 : isA c' d = false := e'
            rw [e1, e2]; exact kitAny_nil
          · have e2 : isA c' d = true := e'
            rw [e2, Bool.or_true]
        · have e1 : isA c d = true := e
          rw [e1]; rfl, kx⟩
end
/-! ### methods of texts -/
def fSplit : FP := fun x y Q => match x, y with
  | .str a, .str b => (b.length == 0) = false ∧ a.length + 2 ≤ sizeLine ∧ Q (.o ((Txt.split a b).map .str))
  | _, _ => False
def strsD : List PyData → Option (List Str)
  | [] => some []
  | .str x :: r => (strsD r).map (x :: ·)
  | _ => none
def fJoin : FP := fun x y Q => match x, y with
  | .str a, .list l => ∃ ys, strsD l = some ys ∧ (ys.map (·.length)).sum + ys.length * a.length ≤ 16777216 ∧ Q (.d (.str (Txt.join a ys)))
  | .str a, .tuple l => ∃ ys, strsD l = some ys ∧ (ys.map (·.length)).sum + ys.length * a.length ≤ 16777216 ∧ Q (.d (.str (Txt.join a ys)))
  | _, _ => False
def fPart : FP := fun x y Q => match x, y with
  | .str a, .str b => (b.length == 0) = false ∧ a.length ≤ sizeLine ∧ Q (.d (.tuple [.str (Txt.partition a b).1, .str (Txt.partition a b).2.1, .str (Txt.partition a b).2.2]))
  | _, _ => False
def fStart : FP := fun x y Q => match x, y with
  | .str a, .str b => Q (.d (.bool (Txt.startswith a b)))
  | _, _ => False
def fEnd : FP := fun x y Q => match x, y with
  | .str a, .str b => Q (.d (.bool (Txt.endswith a b)))
  | _, _ => False
def fStripC (g : Str → Str → Str) : FP := fun x y Q => match x, y with
  | .str a, .str b => a.length ≤ sizeLine ∧ Q (.d (.str (g a b)))
  | _, _ => False
section
variable {X : Cx} {K : PySem.W.Frag} {B : Bs} {F H : Hp} {σ : St} {Γ : G}
theorem reps_strs {H : Hp} : ∀ ys : List Str, Reps K H (ys.map V.str) (ys.map PyData.str)
  | [] => rfl
  | y :: ys => ⟨_, _, rfl, rfl, reps_strs ys⟩
theorem p_split : P2 K (fun x y H Q => ∃ a b, x = .str a ∧ [y] = [V.str b] ∧ (b.length == 0) = false ∧ a.length + 2 ≤ sizeLine ∧ rNewStrs (Txt.split a b) H Q) fSplit := fun B F H σ Γ u v x y Q Kn E hx hy hf k => by
  unfold fSplit at hf
  split at hf
  · rename_i a b
    refine ⟨a, b, hx, by rw [show v = .str b from hy], hf.1, hf.2.1, fun p hp => ?_⟩
    exact k _ (.o _) _ F (Same.id F) (E.layH hp) (rr_new E hp (reps_strs _)) hf.2.2
  · exact hf.elim
theorem strs_reps : ∀ {l : List PyData} {vs : List V} {ys : List Str}, Reps K F vs l → strsD l = some ys → vs = ys.map V.str
  | [], vs, ys, h, e => by cases e; exact h
  | .str b :: l, vs, ys, ⟨v, r, e1, h1, h2⟩, e => by
    have e' : (strsD l).map (b :: ·) = some ys := e
    cases q : strsD l with
    | none => rw [q] at e'; cases e'
    | some cs =>
      rw [q] at e'
      cases e'
      rw [e1, show v = .str b from h1, strs_reps h2 q]
      rfl
  | .none :: _, _, _, _, e => by cases e
  | .int _ :: _, _, _, _, e => by cases e
  | .bool _ :: _, _, _, _, e => by cases e
  | .list _ :: _, _, _, _, e => by cases e
  | .tuple _ :: _, _, _, _, e => by cases e
  | .dict _ :: _, _, _, _, e => by cases e
theorem p_join : P2 K (fun x y H Q => ∃ a p, ∃ ys : List Str, x = .str a ∧ [y] = [V.ref p] ∧ (SqL K H p (ys.map V.str) ∨ SqT K H p (ys.map V.str)) ∧
    (ys.map (·.length)).sum + ys.length * a.length ≤ 16777216 ∧ Q (.str (Txt.join a ys)) H) fJoin := fun B F H σ Γ u v x y Q Kn E hx hy hf k => by
  unfold fJoin at hf
  split at hf
  · rename_i a l
    obtain ⟨ys, e, hz, q⟩ := hf
    obtain ⟨p, vs, e1, h1, h2⟩ := hy
    rw [strs_reps h2 e] at h1
    exact ⟨a, p, ys, hx, by rw [e1], .inl h1, hz, k _ (.d (.str _)) H F (Same.id F) E rfl q⟩
  · rename_i a l
    obtain ⟨ys, e, hz, q⟩ := hf
    obtain ⟨p, vs, e1, h1, h2⟩ := hy
    rw [strs_reps h2 e] at h1
    exact ⟨a, p, ys, hx, by rw [e1], .inr (sqt_mono E.ex h1), hz, k _ (.d (.str _)) H F (Same.id F) E rfl q⟩
  · exact hf.elim
theorem p_part : P2 K (fun x y H Q => ∃ a b, x = .str a ∧ [y] = [V.str b] ∧ (b.length == 0) = false ∧ a.length ≤ sizeLine ∧
    ∀ p, H p = none → Q (.ref p) (upd H p (.tup [.str (Txt.partition a b).1, .str (Txt.partition a b).2.1, .str (Txt.partition a b).2.2]))) fPart := fun B F H σ Γ u v x y Q Kn E hx hy hf k => by
  unfold fPart at hf
  split at hf
  · rename_i a b
    refine ⟨a, b, hx, by rw [show v = .str b from hy], hf.1, hf.2.1, fun p hp => ?_⟩
    exact k _ (.d (.tuple _)) _ _ (same_upd (none_back E.ex hp)) (E.lay hp) (rep_tup (none_back E.ex hp) (reps_strs [(Txt.partition a b).1, (Txt.partition a b).2.1, (Txt.partition a b).2.2])) hf.2.2
  · exact hf.elim
theorem p_bool2 {g : Str → Str → Bool} {f : FP} (hf0 : ∀ x y Q, f x y Q → ∃ a b, x = .str a ∧ y = .str b ∧ Q (.d (.bool (g a b)))) : P2 K (fun x y H Q => ∃ a b, x = .str a ∧ [y] = [V.str b] ∧ Q (.bl (g a b)) H) f := fun B F H σ Γ u v x y Q Kn E hx hy hf k => by
  obtain ⟨a, b, e1, e2, q⟩ := hf0 x y Q hf
  subst e1; subst e2
  exact ⟨a, b, hx, by rw [show v = .str b from hy], k _ (.d (.bool _)) H F (Same.id F) E rfl q⟩
theorem p_start : P2 K (fun x y H Q => ∃ a b, x = .str a ∧ [y] = [V.str b] ∧ Q (.bl (Txt.startswith a b)) H) fStart := p_bool2 fun x y Q h => by
  unfold fStart at h
  split at h
  · exact ⟨_, _, rfl, rfl, h⟩
  · exact h.elim
theorem p_end : P2 K (fun x y H Q => ∃ a b, x = .str a ∧ [y] = [V.str b] ∧ Q (.bl (Txt.endswith a b)) H) fEnd := p_bool2 fun x y Q h => by
  unfold fEnd at h
  split at h
  · exact ⟨_, _, rfl, rfl, h⟩
  · exact h.elim
theorem p_stripC {g : Str → Str → Str} : P2 K (fun x y H Q => ∃ a b, x = .str a ∧ [y] = [V.str b] ∧ a.length ≤ sizeLine ∧ Q (.str (g a b)) H) (fStripC g) := fun B F H σ Γ u v x y Q Kn E hx hy hf k => by
  unfold fStripC at hf
  split at hf
  · rename_i a b
    exact ⟨a, b, hx, by rw [show v = .str b from hy], hf.1, k _ (.d (.str _)) H F (Same.id F) E rfl hf.2⟩
  · exact hf.elim
end
/-! ### a chain of two comparisons -/
def wChain (f f' : FP) (wa wb wc : WE) : WE := fun Γ Q X => wa Γ (fun ra Γ1 => wb Γ1 (fun rb Γ2 => match rd Γ2 ra, rd Γ2 rb with
  | some x, some y => f x y (fun r => ∃ k, r = .d (.bool k) ∧ (if k = true then wc Γ2 (fun rc Γ3 => match rd Γ3 rb, rd Γ3 rc with
    | some y, some z => f' y z (fun r => Q r Γ3)
    | _, _ => False) X else Q (.d (.bool false)) Γ2))
  | _, _ => False) X) X
section
variable {X : Cx} {W : WX} {pos : Pos} {a b c : Expr} {wa wb wc : WE} {r r' : R2} {f f' : FP}
theorem lift_chain {K : PySem.W.Frag} {mg : Str → Option Value} {σ : St} {H : Hp} {Kn : VK} (p : P2 K r f) (p' : P2 K r' f') (h : liftE K mg W (wChain f f' wa wb wc) σ H Kn) :
    tChain r r' (liftE K mg W wa) (liftE K mg W wb) (liftE K mg W wc) σ H Kn := by
  obtain ⟨B, F, Γ, Q, Xq, E, hw, k, kx⟩ := h
  refine ⟨B, F, Γ, _, Xq, E, hw, fun va ra Ha Fa Γa sa Ea hra hq => ?_, kx⟩
  obtain ⟨Fa', sa', Ea', hra'⟩ := Ea.fz hra
  refine ⟨B, Fa', Γa, _, Xq, Ea', hq, fun vb rb Hb Fb Γb sb Eb hrb hq2 => ?_, kx.mono (sa.trans sa')⟩
  have hq2' : match rd Γb ra, rd Γb rb with
    | some x, some y => f x y (fun r => ∃ k, r = .d (.bool k) ∧ (if k = true then wc Γb (fun rc Γ3 => match rd Γ3 rb, rd Γ3 rc with
      | some y, some z => f' y z (fun r => Q r Γ3)
      | _, _ => False) Xq else Q (.d (.bool false)) Γb))
    | _, _ => False := hq2
  cases ex : rd Γb ra with
  | none => rw [ex] at hq2'; exact hq2'.elim
  | some x =>
    cases ey : rd Γb rb with
    | none => rw [ex, ey] at hq2'; exact hq2'.elim
    | some y =>
      rw [ex, ey] at hq2'
      have sx : Sh K Fb Hb va x := keepR Eb hra' (fz_isO ra) sb (by rw [rd_fz]; exact ex)
      obtain ⟨Fb', sb', Eb', hrb'⟩ := Eb.fz hrb
      have s0 := ((sa.trans sa').trans sb).trans sb'
      have sx' : Sh K Fb' Hb va x := keepR Eb' hra' (fz_isO ra) (sb.trans sb') (by rw [rd_fz]; exact ex)
      refine p B Fb' Hb σ Γb va vb x y _ _ Eb' sx' (Eb'.sh hrb' (by rw [rd_fz]; exact ey)) hq2' fun v r Hc Fc sc Ec rr q => ?_
      obtain ⟨kk, e1, q⟩ := q
      subst e1
      refine ⟨kk, rr_bool rr, ?_⟩
      cases kk with
      | false => exact k (.bl false) (.d (.bool false)) Hc Fc Γb (s0.trans sc) Ec rfl q
      | true =>
        refine ⟨B, Fc, Γb, _, Xq, Ec, q, fun vc rc Hd Fd Γd sd Ed hrc hq3 => ?_, kx.mono (s0.trans sc)⟩
        have hq3' : match rd Γd rb, rd Γd rc with
          | some y, some z => f' y z (fun r => Q r Γd)
          | _, _ => False := hq3
        cases ey' : rd Γd rb with
        | none => rw [ey'] at hq3'; exact hq3'.elim
        | some y' =>
          cases ez : rd Γd rc with
          | none => rw [ey', ez] at hq3'; exact hq3'.elim
          | some z =>
            rw [ey', ez] at hq3'
            have sy : Sh K Fd Hd vb y' := keepR Ed hrb' (fz_isO rb) (sc.trans sd) (by rw [rd_fz]; exact ey')
            exact p' B Fd Hd σ Γd vb vc y' z _ Kn Ed sy (Ed.sh hrc ez) hq3' fun v r H' F' s' E' rr q => k v r H' F' Γd (((s0.trans sc).trans sd).trans s') E' rr q
theorem de_chain {op op' : CmpOp} (p : P2 X.K r f) (p' : P2 X.K r' f') (ho : OpR X (compareOp op) r) (ho' : OpR X (compareOp op') r') (ha : DE X W a wa) (hb : DE X W b wb) (hc : DE X W c wc)
    (hm : lastMarks [op, op'] [b, c] = false := by with_unfolding_all rfl) : DE X W (.Compare a [op, op'] [b, c] pos) (wChain f f' wa wb wc) :=
  de_of (pe_chain ho ho' ha.pe hb.pe hc.pe hm) fun _ _ _ h => lift_chain p p' h
theorem dt_chain {op op' : CmpOp} (p : P2 X.K r f) (p' : P2 X.K r' f') (ho : OpR X (compareOp op) r) (ho' : OpR X (compareOp op') r') (ha : DE X W a wa) (hb : DE X W b wb) (hc : DE X W c wc)
    (hm : lastMarks [op, op'] [b, c] = false := by with_unfolding_all rfl) : DT X W (.Compare a [op, op'] [b, c] pos) (wB (wChain f f' wa wb wc)) :=
  ⟨(pt_chain ho ho' ha.pe hb.pe hc.pe hm).imp fun σ H Kn ⟨B, F, Γ, Q, Xq, E, hw, k, kx⟩ => lift_chain (Kn := fun x H' => ∃ k, x = .bl k ∧ Kn k H') p p' ⟨B, F, Γ, _, Xq, E, hw, fun v r H' F' Γ' s E' rr q => by
    obtain ⟨c, e1, q⟩ := q
    subst e1
    exact ⟨c, rr_bool rr, k c H' F' Γ' s E' q⟩, kx⟩⟩
end
end DL

namespace DL
open PySem L2
/-! ### -x -/
def wNeg (w : WE) : WE := fun Γ Q X => w Γ (fun r Γ1 => ∃ i, r = .d (.int i) ∧ Q (.d (.int (-i))) Γ1) X
theorem de_neg {X : Cx} {W : WX} {e : Expr} {w : WE} {pos : Pos} (he : DE X W e w) : DE X W (.UnaryOp .USub e pos) (wNeg w) :=
  de_of (pe_un un_neg he.pe) fun σ H Kn ⟨B, F, Γ, Q, Xq, E, hw, k, kx⟩ => ⟨B, F, Γ, _, Xq, E, hw, fun v r H' F' Γ' s E' rr q => by
    obtain ⟨i, e1, q⟩ := q
    subst e1
    exact ⟨i, rr, k _ (.d (.int (-i))) H' F' Γ' s E' rfl q⟩, kx⟩
end DL
namespace DL
open PySem PyProof.Rows
section
variable {prog : Program} {w : World} {A : Around} {E : Value → Shared → Prop} {s : Shared}
theorem collect_tup {l : Addr} {vs : List Value} {Q : List Value → Shared → Prop} (hl : IsTup s.heap l vs.toArray)
    (h : Q vs { s with heap := (s.heap.push (seqObj "list" #[] 0)).update s.heap.objs.size (Obj.mapSeq (· ++ vs.toArray)) }) (hsz : vs.length ≤ sizeLine) :
    wpAny (model prog w) A (collect (.ref l)) Q E s := by
  obtain ⟨o, ho, hc, n, hd⟩ := id hl
  unfold collect
  refine wpAny_bind (wpAny_runValue (codeAny_builtin entry_proto_collect' ?_))
  show wpAny _ _ (do again (.builtin "list.__iadd__" ⟨[← newList [], .ref l], []⟩)) _ _ s
  refine wpAny_bind (wpAny_newList (wpAny_pure ⟨Code.quiet_builtin _ (by decide +kernel), codeAny_builtin entry_list_iadd' ?_⟩))
  show wpAny _ _ (Builtin.List.listExtendWith (.ref s.heap.objs.size) (.ref l) (.ref s.heap.objs.size)) _ _ { s with heap := s.heap.push (seqObj "list" #[] 0) }
  unfold Builtin.List.listExtendWith
  have ho' : (s.heap.push (seqObj "list" #[] 0)).get? l = some o := Heap.get?_push_of_some _ ho
  refine wpAny_bind (wpAny_typeOf (T := "tuple") ⟨o, ho', hc⟩ ?_)
  have ht : (Value.type "tuple" == Value.type "tuple") = true := by rfl
  rw [if_pos (by rw [ht]; simp)]
  refine wpAny_bind (listItems_at ho' hd ?_)
  refine wpAny_bind (listItems_at (xs := #[]) (n := 0) (Heap.get?_push_size _ rfl) rfl ?_)
  rw [if_neg (by simp)]
  refine wpAny_bind (listUpdate_at (xs := #[]) (n := 0) (Heap.get?_push_size _ rfl) rfl ?_ (Nat.zero_le _) (by show (#[] ++ vs.toArray).size ≤ sizeLine + 1; simp only [Array.size_append, List.size_toArray, List.length_nil]; omega))
  refine wpAny_pure ?_
  show wpAny (model prog w) A (do
      let o ← load s.heap.objs.size
      match o.data with
      | .seq xs _ => pure xs.toList
      | _ => unsupported "internal:collect") Q E { s with heap := (s.heap.push (seqObj "list" #[] 0)).update s.heap.objs.size (Obj.mapSeq (· ++ vs.toArray)) }
  refine wpAny_bind (wpAny_load (get?_update_seq (Heap.get?_push_size _ rfl) _) ?_)
  show wpAny _ _ (pure ((#[] : Array Value) ++ vs.toArray).toList) Q E _
  rw [show ((#[] : Array Value) ++ vs.toArray).toList = vs by simp]
  exact wpAny_pure h
theorem sorted_strsTup {l : Addr} {vs : List Value} {ss : List Str} {Q : Value → Shared → Prop} (hl : IsTup s.heap l vs.toArray) (hS : StrsAre vs ss) (hL : vs.length ≤ sizeLine)
    (h : ∀ (out : Array Value) (ss' : List Str), StrsAre out.toList ss' → ss'.Perm ss → sortedS ss' = true → Q (.ref (s.heap.objs.size + 1)) { s with heap := sortedAll s.heap vs out }) :
    wpAny (model prog w) A (call (.builtin "sorted") [.ref l]) Q E s := by
  refine Calls.call_function_entry kind_sorted plain_sorted entry_sorted (args_sorted1 _) ?_
  unfold Builtin.«sorted»
  refine wpAny_bind (m := checkCount "sorted" 1 1 _) (wpAny_pure ?_)
  refine wpAny_bind (collect_tup hl ?_ hL)
  refine wpAny_bind (wpAny_newList ?_)
  have hsz : ((s.heap.push (seqObj "list" #[] 0)).update s.heap.objs.size (Obj.mapSeq (· ++ vs.toArray))).objs.size = s.heap.objs.size + 1 := by
    rw [Heap.size_update, size_push']
  have hoL : (((s.heap.push (seqObj "list" #[] 0)).update s.heap.objs.size (Obj.mapSeq (· ++ vs.toArray))).push (seqObj "list" vs.toArray 0)).get? (s.heap.objs.size + 1) = some (seqObj "list" vs.toArray 0) := by
    rw [← hsz]; exact Heap.get?_push_size _ rfl
  show wpAny _ _ _ _ _ { s with heap := ((s.heap.push (seqObj "list" #[] 0)).update s.heap.objs.size (Obj.mapSeq (· ++ vs.toArray))).push (seqObj "list" vs.toArray 0) }
  rw [hsz]
  refine wpAny_bind (wpAny_holding (wpAny_call_entry slot_list_sort ⟨_, hoL, rfl⟩ entry_list_sort (list_sort_treeKAny strKind_oneLt hoL hS.keysOf (fun v₁ v₂ rest e => keyKind_strs (by rw [← e]; exact hS)) hL fun st' a1 a2 => ⟨_, rfl, ?_⟩) (args_list_sort _)))
  obtain ⟨ss', h1, h2, h3⟩ := sorted_out_str hS a1 a2
  exact wpAny_pure ⟨_, rfl, h _ ss' h1 h2 h3⟩
end
end DL
namespace DL
open PySem L2
def fSorted : FL := fun xs Q => match xs with
  | [.list l] => ∃ ys, strsD l = some ys ∧ ∀ zs : List Str, zs.Perm ys → PyProof.Rows.sortedS zs = true → Q (.o (zs.map .str))
  | [.tuple l] => ∃ ys, strsD l = some ys ∧ ∀ zs : List Str, zs.Perm ys → PyProof.Rows.sortedS zs = true → Q (.o (zs.map .str))
  | _ => False
def rSortedU (K : PySem.W.Frag) : List V → Hp → VK → Prop := fun vs H Q => ∃ (a : Addr) (xs : List Str), vs = [V.ref a] ∧ (SqL K H a (xs.map V.str) ∨ SqT K H a (xs.map V.str)) ∧
  ∀ (ys : List Str) (p : Addr), ys.Perm xs → PyProof.Rows.sortedS ys = true → H p = none → Q (.ref p) (upd H p (.lst (ys.map V.str)))
theorem call_sortedU {X : Cx} : CallR X (.builtin "sorted") (rSortedU X.K) := by
  intro pins s σ H vs us Q I r h
  obtain ⟨a, xs, rfl, hs, q⟩ := h
  rw [Vals.ref1 r]
  rcases hs with hs | hs
  · obtain ⟨its, rv, hl, hz⟩ := I.list hs
    have hlen0 := rv.length
    refine PyProof.Rows.sorted_strsAny hl.isList rv.strs (by rw [← hlen0]; exact hz) fun out ys h1 h2 h3 => ?_
    obtain ⟨ep, he'⟩ := PyProof.Rows.sortedAll_at s.heap its out
    have hlen : (ys.map V.str).length ≤ sizeLine := by rw [List.length_map, h2.length_eq]; rw [List.length_map] at hz; exact hz
    exact ⟨.ref _, upd H (s.heap.objs.size + 1) (.lst (ys.map V.str)), I.laid (t' := s.toks) (fun _ _ => PyProof.Rows.sortedAll_old) (Nat.le_succ _) ⟨hlen, out.toList, ep, vals_of_strs h1, he'⟩, rfl, q ys _ h2 h3 (I.hok.fresh (Nat.le_succ _))⟩
  · obtain ⟨its, rv, hl, hz⟩ := I.tuple hs
    have hlen0 := rv.length
    refine sorted_strsTup hl rv.strs (by rw [← hlen0]; exact hz) fun out ys h1 h2 h3 => ?_
    obtain ⟨ep, he'⟩ := PyProof.Rows.sortedAll_at s.heap its out
    have hlen : (ys.map V.str).length ≤ sizeLine := by rw [List.length_map, h2.length_eq]; rw [List.length_map] at hz; exact hz
    exact ⟨.ref _, upd H (s.heap.objs.size + 1) (.lst (ys.map V.str)), I.laid (t' := s.toks) (fun _ _ => PyProof.Rows.sortedAll_old) (Nat.le_succ _) ⟨hlen, out.toList, ep, vals_of_strs h1, he'⟩, rfl, q ys _ h2 h3 (I.hok.fresh (Nat.le_succ _))⟩
theorem p_sorted {K : PySem.W.Frag} : PL K (rSortedU K) fSorted := fun B F H σ Γ vs xs Q Kn E h hf k => by
  unfold fSorted at hf
  split at hf
  · rename_i l
    obtain ⟨ys, ey, q⟩ := hf
    obtain ⟨v, e, a, ws, e1, h1, h2⟩ := h.one
    subst e1
    rw [strs_reps h2 ey] at h1
    exact ⟨a, ys, e, .inl h1, fun zs p pm so hp => k _ (.o (zs.map .str)) _ F (Same.id F) (E.layH hp) (rr_new E hp (reps_strs zs)) (q zs pm so)⟩
  · rename_i l
    obtain ⟨ys, ey, q⟩ := hf
    obtain ⟨v, e, a, ws, e1, h1, h2⟩ := h.one
    subst e1
    rw [strs_reps h2 ey] at h1
    exact ⟨a, ys, e, .inr (sqt_mono E.ex h1), fun zs p pm so hp => k _ (.o (zs.map .str)) _ F (Same.id F) (E.layH hp) (rr_new E hp (reps_strs zs)) (q zs pm so)⟩
  · exact hf.elim
end DL

/-! sets of texts: made of a list or tuple, sorted -/
namespace DL
open PySem PySem.Spec PyProof.Rows PySem.Froz
/-- a set's table that rises and may be walked -/
def Wlk (w : World) (t : SetTable) : Prop := L2.Ris t.place.toList ∧ (w.params.followText "set-order" = true ∨ t.led = true)
theorem wlk_off {w : World} {t : SetTable} (h : Wlk w t) : Wlk w { t with plain := false } := h
theorem wlk_tail {w : World} {t : SetTable} {ep : Nat} {es : Array (Int × Value)} {d : Bool} (h : Wlk w t) : Wlk w (tailTx ep es t d).2.2 := by
  unfold tailTx
  by_cases c : (!d && t.tooFull) = true
  · rw [if_pos c]
    exact ⟨L2.relayAll_ris t es _, h.2.imp id fun z => by rw [L2.relayAll_led]; exact z⟩
  · rw [if_neg c]
    exact h
theorem wlk_add {w : World} {D : SD} {k : Int} {v : Value} (h : Wlk w D.2.2) : Wlk w (addTx k v D).2.2 := by
  have h1 : Wlk w (layNew D.2.2 D.1 k v).2.1 := ⟨L2.layNew_ris D.2.2 D.1 k v h.1, h.2.imp id fun z => by rw [L2.layNew_led]; exact z⟩
  unfold addTx
  by_cases c : (layNew D.2.2 D.1 k v).2.1.plain = true
  · rw [if_pos c]; exact wlk_tail (wlk_off h1)
  · rw [if_neg c]; exact wlk_tail h1
/-- the set of the texts l, each once, stands at a -/
def TxS (P : Program) (w : World) (h : Heap) (a : Addr) (l : List Str) : Prop := ∃ D : SD, h.get? a = some (sObj "set" D) ∧ TxOk P w D l ∧ l.Nodup ∧ Wlk w D.2.2
theorem TxS.at {P : Program} {w : World} {h h' : Heap} {a : Addr} {l : List Str} (R : TxS P w h a l) (k : ∀ o, h.get? a = some o → h'.get? a = some o) : TxS P w h' a l := by
  obtain ⟨D, ho, r⟩ := R
  exact ⟨D, k _ ho, r⟩
section
variable {P : Program} {w : World} {A : Around} {E : Value → Shared → Prop} {s : Shared}
/-- the add of a text that is in it -/
theorem dup_x {a : Addr} {D : SD} {l : List Str} {k : Str} {u : Tok} {Q : Bool → Shared → Prop} (ho : s.heap.get? a = some (sObj "set" D)) (F : TxOk P w D l) (hk : k ∈ l) (hb : l.length < scanBound) (h : Q false s) :
    wpAny (model P w) A (setAddHashed a (.str k u) (hashStr w k)) Q E s := by
  obtain ⟨es, ep, t⟩ := D
  have hd : (sObj "set" (es, ep, t)).data = .set es ep t := rfl
  have fit : t.fits es.size = true := F.fit
  have el : ElemsOf (strKind P w) es.toList := F.el
  have len : es.size = l.length := F.sz
  have own : (strKind P w).is k (.str k u) = true := is_str k u
  unfold setAddHashed setAddHashedIn
  refine wpAny_holding (wpAny_bind (wpAny_setState_of ho hd fit ?_))
  dsimp only
  rw [byScan_of rfl (by omega) el]
  simp only [↓reduceIte]
  unfold setAddByScan
  refine wpAny_bind (wpAny_bind (wpAny_rule (wpAny_bind (wpAny_setScan_of (knd := strKind P w) (k := k) own ho hd fit el ?_))))
  cases q : List.findIdx? (fun e => (strKind P w).is k e.2) es.toList with
  | some j => dsimp only; exact wpAny_pure (wpAny_pure h)
  | none =>
    obtain ⟨e, he, z⟩ := (F.mem k).mp hk
    have := List.findIdx?_eq_none_iff.mp q e he
    rw [z] at this
    cases this
theorem add_any {a : Addr} {l : List Str} {k : Str} {u : Tok} {Q : Bool → Shared → Prop} (R : TxS P w s.heap a l) (hb : l.length + 1 < scanBound)
    (h : ∀ (h' : Heap) (l' : List Str) (b : Bool), (∀ c o, c ≠ a → s.heap.get? c = some o → h'.get? c = some o) → s.heap.objs.size = h'.objs.size → TxS P w h' a l' → (∀ z, z ∈ l' ↔ z = k ∨ z ∈ l) → l'.length ≤ l.length + 1 → Q b { s with heap := h' }) :
    wpAny (model P w) A (setAddHashed a (.str k u) (hashStr w k)) Q E s := by
  obtain ⟨D, ho, F, nd, wk⟩ := R
  by_cases hk : k ∈ l
  · exact dup_x ho F hk (by omega) (h s.heap l false (fun _ _ _ z => z) rfl ⟨D, ho, F, nd, wk⟩ (fun z => ⟨.inr, fun q => q.elim (fun e => e ▸ hk) id⟩) (by omega))
  · refine add_x ho F hk hb (h _ (k :: l) true (fun c o hc z => PySem.Heap.get?_update_of_ne _ (Ne.symm hc) z) (by rw [Heap.size_update]) ⟨_, get_upd _ ho rfl, add_ok u F, List.nodup_cons.mpr ⟨hk, nd⟩, wlk_add wk⟩ (fun z => List.mem_cons) (by simp))
end
end DL

namespace DL
open PySem PySem.Spec PyProof.Rows PySem.Froz
section
variable {P : Program} {w : World} {A : Around} {E : Value → Shared → Prop} {s : Shared}
/-- the loop of set(..) over texts -/
theorem fill_txs {I : Addr} {fp wr : List Addr} {G : Array GenState → Array GenState → Prop} {n : Nat} {Pv : Nat → Value → Prop} {St : Nat → Shared → Prop} {R : Result → Shared → Prop}
    (Wk : WalksS P w A.in1 I fp wr G n Pv St) (a : Addr) (away : a ∉ fp) (ks : List Str) (en : n = ks.length) (hb : ks.length + 1 < scanBound) (val : ∀ i v, Pv i v → ∃ k t, ks[i]? = some k ∧ v = .str k t)
    (done : ∀ s' l, Moved (a :: wr) G s s' → TxS P w s'.heap a l → (∀ z, z ∈ l ↔ z ∈ ks) → l.length ≤ ks.length → R (.ok (.ret .none)) s') :
    ∀ (m i : Nat) (s1 : Shared), n - i = m → i ≤ n → St i s1 → Moved (a :: wr) G s s1 → (∃ l, TxS P w s1.heap a l ∧ (∀ z, z ∈ l ↔ z ∈ ks.take i) ∧ l.length ≤ i) → codeAny (model P w) A (.builtin "set.update.loop" ⟨[.ref a, .ref I], []⟩) R s1 := by
  have out : a ∉ wr := fun z => away (Wk.sub _ z)
  have more : ∀ b ∈ wr, b ∈ a :: wr := fun b z => List.mem_cons_of_mem _ z
  intro m
  induction m with
  | zero =>
    intro i s1 em hi st mv ⟨l, R1, hm, hl⟩
    have ei : i = n := by omega
    refine codeAny_builtin F.entry_set_update_loop ?_
    rw [Around.under_plainId F.plain_set_update_loop _]
    show wpAny _ A.in1 (do let x ← pyNext (.ref I); _) _ _ s1
    refine wpAny_bind (Wk.done s1 _ _ (ei ▸ st) fun s2 m2 => ?_)
    have et : ks.take i = ks := List.take_of_length_le (by omega)
    rw [et] at hm
    exact wpAny_pure (done s2 l (Moved.trans Wk.gtrans mv (m2.mono more)) (R1.at fun o z => m2.heap a o out z) hm (by omega))
  | succ m ih =>
    intro i s1 em hi st mv ⟨l, R1, hm, hl⟩
    have hlt : i < n := by omega
    refine codeAny_builtin F.entry_set_update_loop ?_
    rw [Around.under_plainId F.plain_set_update_loop _]
    show wpAny _ A.in1 (do let x ← pyNext (.ref I); _) _ _ s1
    refine wpAny_bind (Wk.item i s1 _ _ hlt st fun v s2 hv st2 m2 => ?_)
    obtain ⟨k, t, hk, rfl⟩ := val i v hv
    have R2 : TxS P w s2.heap a l := R1.at fun o z => m2.heap a o out z
    show wpAny _ A.in1 (do let b ← holding [Value.str k t] (setAdd a (.str k t)); _) _ _ s2
    refine wpAny_bind (wpAny_holding ?_)
    unfold setAdd
    refine wpAny_holding (wpAny_bind ((strKind P w).pyHash (k := k) (is_str _ _) ?_))
    refine add_any (s := { s2 with toks := s2.toks + 1 }) R2 (by omega) fun h' l' b keep sz R3 mem3 len3 => ?_
    have m3 : Moved (a :: wr) G s1 { s2 with heap := h', toks := s2.toks + 1 } := (m2.mono more).then_heap (Nat.le_succ _) fun c o hc z => keep c o (fun q => hc (by rw [q]; exact List.mem_cons_self)) z
    refine wpAny_pure ⟨plainId_quiet F.plain_set_update_loop _, ih (i + 1) _ (by omega) hlt (Wk.frame _ s2 _ _ st2 (Nat.le_succ _) fun c hc o z => keep c o (fun q => away (by rw [← q]; exact hc)) z) (Moved.trans Wk.gtrans mv m3) ⟨l', R3, fun z => ?_, by omega⟩⟩
    rw [mem3, hm, List.take_add_one, hk]
    simp only [Option.toList_some, List.mem_append, List.mem_singleton]
    exact Or.comm
/-- an iterator over a list or a tuple -/
theorem iter_seq {l : Addr} {items : Array Value} {Q : Value → Shared → Prop} (hl : s.heap.IsTuple l items ∨ s.heap.IsList l items)
    (h : ∀ (o : Obj) (St : Nat → Heap → Prop), (∀ A' : Around, A'.handled = none → PySem.Walks P w A' s.heap.objs.size [s.heap.objs.size, l] [s.heap.objs.size] items.size (fun i v => items[i]? = some v) St) → St 0 (s.heap.push o) → Q (.ref s.heap.objs.size) { s with heap := s.heap.push o }) :
    wpAny (model P w) A (pyIter (.ref l)) Q E s := by
  have hne : ∀ o : Obj, s.heap.get? l = some o → l ≠ s.heap.objs.size := fun o e => Nat.ne_of_lt (Heap.lt_size e)
  rcases hl with hl | hl
  · have q := hl
    obtain ⟨o, ho, _⟩ := hl
    exact wpAny_pyIter_tuple q (h _ _ (fun A' hh => PySem.Walks.tuple hh _ l (hne o ho) items) ⟨⟨_, Heap.get?_push_size _ rfl, rfl, rfl⟩, q.push _⟩)
  · have q := hl
    obtain ⟨o, ho, _⟩ := hl
    exact wpAny_pyIter_list q (h _ _ (fun A' hh => PySem.Walks.list hh _ l (hne o ho) items) ⟨⟨_, Heap.get?_push_size _ rfl, rfl, rfl⟩, q.push _⟩)
end
end DL

namespace DL
open PySem PySem.Spec PyProof.Rows PySem.Froz
abbrev bareS (w : World) : Obj := { cls := .type "set", dict := none, data := .set #[] 0 (.fresh 0 0 (!w.params.followText "set-order")) }
theorem bare_txs {P : Program} {w : World} {h : Heap} {a : Addr} (ho : h.get? a = some (bareS w)) : TxS P w h a [] :=
  ⟨(#[], 0, .fresh 0 0 (!w.params.followText "set-order")), ho, TxOk.nil rfl, List.nodup_nil, List.Pairwise.nil, by
    show _ ∨ (!w.params.followText "set-order") = true
    cases w.params.followText "set-order" <;> simp⟩
theorem strs_nth : ∀ {vs : List Value} {ks : List Str} {i : Nat} {v : Value}, StrsAre vs ks → vs[i]? = some v → ∃ k t, ks[i]? = some k ∧ v = .str k t
  | _, _, _, _, .nil, h => by simp at h
  | _, _, 0, _, .cons x t r, h => by
    simp only [List.getElem?_cons_zero, Option.some.injEq] at h
    exact ⟨x, t, rfl, h.symm⟩
  | _, _, i + 1, _, .cons x t r, h => by
    simp only [List.getElem?_cons_succ] at h ⊢
    exact strs_nth r h
section
variable {P : Program} {w : World} {A : Around} {E : Value → Shared → Prop} {s : Shared}
/-- set(l) of a tuple of texts -/
theorem call_set_tx {l : Addr} {items : Array Value} (ks : List Str) {Q : Value → Shared → Prop} (hh : A.handled = none) (hl : s.heap.IsTuple l items) (hv : StrsAre items.toList ks) (hb : ks.length + 1 < scanBound)
    (h : ∀ (h' : Heap) (tk : Nat) (m : List Str), TxS P w h' s.heap.objs.size m → (∀ z, z ∈ m ↔ z ∈ ks) → m.length ≤ ks.length → (∀ b o, s.heap.get? b = some o → h'.get? b = some o) → Q (.ref s.heap.objs.size) { s with heap := h', toks := tk }) :
    wpAny (model P w) A (call (.type "set") [.ref l]) Q E s := by
  have size : items.size = ks.length := by have q := StrsAre.length hv; rwa [Array.length_toList] at q
  obtain ⟨c, tl, hmro⟩ := F.called_set.mro
  have hmade := F.called_set.made
  have hsub := F.called_set.sub
  refine wpAny_call (codeAny_of_tree ?_)
  show wpAny _ _ (callAny (.type "set") _) _ _ _
  refine wpAny_pure ⟨Code.quiet_builtin _ (by decide +kernel), codeAny_builtin F.entry_type_call ?_⟩
  rw [Around.under_plain (weight_type_call_type "set" [.ref l] []) rfl]
  have h1 := F.called_set.notType
  have h2 := F.called_set.canCreate
  have hct := F.typeCall_set_1 (.ref l)
  repeat (any_goals (first | assumption | wp_step))
  refine codeAny_mono (L2.code_set_led1 (.ref l) (E := E) (Q₁ := fun obj s1 => obj = .ref s.heap.objs.size ∧ s1 = { s with heap := s.heap.push (bareS w) }) ⟨rfl, rfl⟩) fun r s1 hr => ?_
  cases r with
  | error e => exact hr
  | ok fl =>
    cases fl with
    | ret obj =>
      obtain ⟨rfl, rfl⟩ := hr
      have hS : (s.heap.push (bareS w)).get? s.heap.objs.size = some (bareS w) := Heap.get?_push_size _ rfl
      have hT : Shared.TypeIs { s with heap := s.heap.push (bareS w) } (.ref s.heap.objs.size) "set" := ⟨_, hS, rfl⟩
      have hli := F.called_set.init.lookup
      have hbi := F.called_set.init.bind (.ref s.heap.objs.size)
      repeat (any_goals (first | assumption | wp_step))
      refine codeAny_mono (codeAny_call_builtin (R := wants (fun r s2 => r = .none ∧ ∃ h' tk m, s2 = { s with heap := h', toks := tk } ∧ TxS P w h' s.heap.objs.size m ∧ (∀ z, z ∈ m ↔ z ∈ ks) ∧ m.length ≤ ks.length ∧ (∀ b o, s.heap.get? b = some o → h'.get? b = some o)) E)
        F.called_set.init.plain F.entry_set_init (check_set_init_1 hT ?_)) fun r2 s2 hr2 => ?_
      · have hlS : l < s.heap.objs.size := by obtain ⟨o, ho, _⟩ := hl; exact Heap.lt_size ho
        have hl1 : (s.heap.push (bareS w)).IsTuple l items := hl.push _
        obtain ⟨ol, hol, hcl, nl, hdl⟩ := hl
        obtain ⟨ocls, odict, odata, oslots⟩ := ol
        simp only at hcl hdl
        subst hcl; subst hdl
        have hol' : (s.heap.push (bareS w)).get? l = some { cls := .type "tuple", dict := odict, data := .seq items nl, slots := oslots } := Heap.get?_push_of_some _ hol
        have hsls := F.sub_tuple_set
        have hslf := F.sub_tuple_frozenset
        have hne : (Value.type "tuple" == Value.type "dict") = false := by decide
        unfold Builtin.«set.__init__» noKeywords Builtin.Frozenset.updateFrom
        generalize hPI : pyIter = PI
        wp_walk
        subst hPI
        refine iter_seq (.inl hl1) fun io St wk st0 => ?_
        refine wpAny_bind (wpAny_runValue ?_)
        have hn3 : A.in1.in1.in1.handled = none := by simp [hh]
        have sz1 : (s.heap.push (bareS w)).objs.size = s.heap.objs.size + 1 := Heap.size_push ..
        refine fill_txs (s := { s with heap := (s.heap.push (bareS w)).push io }) ((wk _ hn3).toS) s.heap.objs.size ?_ ks size hb (fun i v hiv => ?_) ?_ (items.size - 0) 0 _ (by omega) (Nat.zero_le _) st0 ?_ ⟨[], bare_txs (Heap.get?_push_of_some _ hS), by simp, by simp⟩
        · intro q
          rcases List.mem_cons.mp q with q | q
          · exact absurd (q.trans sz1) (Nat.ne_of_lt (Nat.lt_succ_self _))
          · exact absurd (List.mem_singleton.mp q) (Nat.ne_of_gt hlS)
        · exact strs_nth hv (by rw [Array.getElem?_toList]; exact hiv)
        · intro s' m mv R1 mem len
          obtain ⟨h', g2, d', tk', os'⟩ := s'
          have eg : g2 = s.gens := mv.gens
          have ed : d' = s.drawn := mv.drawn
          have eo : os' = s.os := mv.os
          subst eg; subst ed; subst eo
          show wpAny _ _ _ _ _ _
          refine wpAny_pure ?_
          show wpAny _ _ (ret Value.none) _ _ _
          refine wpAny_pure ⟨rfl, h', tk', m, rfl, R1, mem, len, fun b o e => ?_⟩
          have b0 : b < s.heap.objs.size := Heap.lt_size e
          refine mv.heap b o (fun q => ?_) (Heap.get?_push_of_some _ (Heap.get?_push_of_some _ e))
          rcases List.mem_cons.mp q with q | q
          · exact absurd q (Nat.ne_of_lt b0)
          · exact absurd ((List.mem_singleton.mp q).trans sz1) (Nat.ne_of_lt (Nat.lt_succ_of_lt b0))
        · exact ⟨fun _ _ _ z => z, rfl, rfl, rfl, Nat.le_refl _⟩
      · cases r2 with
        | error e => exact hr2
        | ok fl2 =>
          cases fl2 with
          | ret r =>
            obtain ⟨rfl, h', tk, m, rfl, a1, a2, a3, a4⟩ := hr2
            repeat (any_goals (first | assumption | wp_step))
            exact h _ _ _ a1 a2 a3 a4
          | _ => exact hr2.elim
    | _ => exact hr.elim
end
end DL

namespace DL
open PySem PySem.Spec PyProof.Rows PySem.Froz
section
variable {P : Program} {w : World} {A : Around} {E : Value → Shared → Prop} {s : Shared}
/-- set(l) of a list of texts -/
theorem call_set_txL {l : Addr} {items : Array Value} (ks : List Str) {Q : Value → Shared → Prop} (hh : A.handled = none) (hl : s.heap.IsList l items) (hv : StrsAre items.toList ks) (hb : ks.length + 1 < scanBound)
    (h : ∀ (h' : Heap) (tk : Nat) (m : List Str), TxS P w h' s.heap.objs.size m → (∀ z, z ∈ m ↔ z ∈ ks) → m.length ≤ ks.length → (∀ b o, s.heap.get? b = some o → h'.get? b = some o) → Q (.ref s.heap.objs.size) { s with heap := h', toks := tk }) :
    wpAny (model P w) A (call (.type "set") [.ref l]) Q E s := by
  have size : items.size = ks.length := by have q := StrsAre.length hv; rwa [Array.length_toList] at q
  obtain ⟨c, tl, hmro⟩ := F.called_set.mro
  have hmade := F.called_set.made
  have hsub := F.called_set.sub
  refine wpAny_call (codeAny_of_tree ?_)
  show wpAny _ _ (callAny (.type "set") _) _ _ _
  refine wpAny_pure ⟨Code.quiet_builtin _ (by decide +kernel), codeAny_builtin F.entry_type_call ?_⟩
  rw [Around.under_plain (weight_type_call_type "set" [.ref l] []) rfl]
  have h1 := F.called_set.notType
  have h2 := F.called_set.canCreate
  have hct := F.typeCall_set_1 (.ref l)
  repeat (any_goals (first | assumption | wp_step))
  refine codeAny_mono (L2.code_set_led1 (.ref l) (E := E) (Q₁ := fun obj s1 => obj = .ref s.heap.objs.size ∧ s1 = { s with heap := s.heap.push (bareS w) }) ⟨rfl, rfl⟩) fun r s1 hr => ?_
  cases r with
  | error e => exact hr
  | ok fl =>
    cases fl with
    | ret obj =>
      obtain ⟨rfl, rfl⟩ := hr
      have hS : (s.heap.push (bareS w)).get? s.heap.objs.size = some (bareS w) := Heap.get?_push_size _ rfl
      have hT : Shared.TypeIs { s with heap := s.heap.push (bareS w) } (.ref s.heap.objs.size) "set" := ⟨_, hS, rfl⟩
      have hli := F.called_set.init.lookup
      have hbi := F.called_set.init.bind (.ref s.heap.objs.size)
      repeat (any_goals (first | assumption | wp_step))
      refine codeAny_mono (codeAny_call_builtin (R := wants (fun r s2 => r = .none ∧ ∃ h' tk m, s2 = { s with heap := h', toks := tk } ∧ TxS P w h' s.heap.objs.size m ∧ (∀ z, z ∈ m ↔ z ∈ ks) ∧ m.length ≤ ks.length ∧ (∀ b o, s.heap.get? b = some o → h'.get? b = some o)) E)
        F.called_set.init.plain F.entry_set_init (check_set_init_1 hT ?_)) fun r2 s2 hr2 => ?_
      · have hlS : l < s.heap.objs.size := by obtain ⟨o, ho, _⟩ := hl; exact Heap.lt_size ho
        have hl1 : (s.heap.push (bareS w)).IsList l items := hl.push _
        obtain ⟨ol, hol, hcl, nl, hdl⟩ := hl
        obtain ⟨ocls, odict, odata, oslots⟩ := ol
        simp only at hcl hdl
        subst hcl; subst hdl
        have hol' : (s.heap.push (bareS w)).get? l = some { cls := .type "list", dict := odict, data := .seq items nl, slots := oslots } := Heap.get?_push_of_some _ hol
        have hsls := F.sub_list_set
        have hslf := F.sub_list_frozenset
        have hne : (Value.type "list" == Value.type "dict") = false := by decide
        unfold Builtin.«set.__init__» noKeywords Builtin.Frozenset.updateFrom
        generalize hPI : pyIter = PI
        wp_walk
        subst hPI
        refine iter_seq (.inr hl1) fun io St wk st0 => ?_
        refine wpAny_bind (wpAny_runValue ?_)
        have hn3 : A.in1.in1.in1.handled = none := by simp [hh]
        have sz1 : (s.heap.push (bareS w)).objs.size = s.heap.objs.size + 1 := Heap.size_push ..
        refine fill_txs (s := { s with heap := (s.heap.push (bareS w)).push io }) ((wk _ hn3).toS) s.heap.objs.size ?_ ks size hb (fun i v hiv => ?_) ?_ (items.size - 0) 0 _ (by omega) (Nat.zero_le _) st0 ?_ ⟨[], bare_txs (Heap.get?_push_of_some _ hS), by simp, by simp⟩
        · intro q
          rcases List.mem_cons.mp q with q | q
          · exact absurd (q.trans sz1) (Nat.ne_of_lt (Nat.lt_succ_self _))
          · exact absurd (List.mem_singleton.mp q) (Nat.ne_of_gt hlS)
        · exact strs_nth hv (by rw [Array.getElem?_toList]; exact hiv)
        · intro s' m mv R1 mem len
          obtain ⟨h', g2, d', tk', os'⟩ := s'
          have eg : g2 = s.gens := mv.gens
          have ed : d' = s.drawn := mv.drawn
          have eo : os' = s.os := mv.os
          subst eg; subst ed; subst eo
          show wpAny _ _ _ _ _ _
          refine wpAny_pure ?_
          show wpAny _ _ (ret Value.none) _ _ _
          refine wpAny_pure ⟨rfl, h', tk', m, rfl, R1, mem, len, fun b o e => ?_⟩
          have b0 : b < s.heap.objs.size := Heap.lt_size e
          refine mv.heap b o (fun q => ?_) (Heap.get?_push_of_some _ (Heap.get?_push_of_some _ e))
          rcases List.mem_cons.mp q with q | q
          · exact absurd q (Nat.ne_of_lt b0)
          · exact absurd ((List.mem_singleton.mp q).trans sz1) (Nat.ne_of_lt (Nat.lt_succ_of_lt b0))
        · exact ⟨fun _ _ _ z => z, rfl, rfl, rfl, Nat.le_refl _⟩
      · cases r2 with
        | error e => exact hr2
        | ok fl2 =>
          cases fl2 with
          | ret r =>
            obtain ⟨rfl, h', tk, m, rfl, a1, a2, a3, a4⟩ := hr2
            repeat (any_goals (first | assumption | wp_step))
            exact h _ _ _ a1 a2 a3 a4
          | _ => exact hr2.elim
    | _ => exact hr.elim
end
end DL

namespace DL
open PySem PySem.Spec PyProof.Rows PySem.Froz
section
variable {P : Program} {w : World} {A : Around} {E : Value → Shared → Prop} {s : Shared}
theorem strsAre_of : ∀ (vs : List Value), (∀ v ∈ vs, ∃ k t, v = Value.str k t) → ∃ ks, StrsAre vs ks
  | [], _ => ⟨[], .nil⟩
  | v :: vs, h => by
    obtain ⟨k, t, rfl⟩ := h v (List.mem_cons_self ..)
    obtain ⟨ks, r⟩ := strsAre_of vs fun u hu => h u (List.mem_cons_of_mem _ hu)
    exact ⟨k :: ks, .cons k t r⟩
def keyV (v : Value) : Str := match v with
  | .str k _ => k
  | _ => Str.empty
theorem strsAre_key : ∀ {vs : List Value} {ks : List Str}, StrsAre vs ks → ks = vs.map keyV
  | _, _, .nil => rfl
  | _, _, .cons k t r => by rw [List.map_cons, ← strsAre_key r]; rfl
theorem txok_keys {D : SD} {l : List Str} (F : TxOk P w D l) : (∀ e ∈ D.1.toList, ∃ k t, e.2 = Value.str k t) ∧ ∀ k, k ∈ l ↔ k ∈ D.1.toList.map fun e => keyV e.2 := by
  have h1 : ∀ e ∈ D.1.toList, ∃ k t, e.2 = Value.str k t := fun e he => by
    obtain ⟨⟨k, hk, _⟩, _⟩ := F.el e he
    obtain ⟨t, ht⟩ := Value.isStrOf_shape hk
    exact ⟨k, t, ht⟩
  refine ⟨h1, fun k => (F.mem k).trans ?_⟩
  rw [List.mem_map]
  constructor
  · rintro ⟨e, he, q⟩
    obtain ⟨t, ht⟩ := Value.isStrOf_shape q
    exact ⟨e, he, by rw [ht]; rfl⟩
  · rintro ⟨e, he, q⟩
    obtain ⟨k', t, ht⟩ := h1 e he
    refine ⟨e, he, ?_⟩
    rw [ht] at q ⊢
    have : k' = k := q
    rw [this]
    exact is_str k t
/-- sorted(s) of a set of texts -/
theorem sorted_tx {a : Addr} {l : List Str} {Q : Value → Shared → Prop} (R : TxS P w s.heap a l) (hh : A.handled = none) (hb : l.length < scanBound)
    (hQ : ∀ s' p (out : Array Value) (c : Nat) (ns : List Str), (∀ b o, s.heap.get? b = some o → s'.heap.get? b = some o) → s'.gens = s.gens → s'.os = s.os → s.heap.objs.size ≤ p →
      s'.heap.get? p = some (seqObj "list" out c) → StrsAre out.toList ns → sortedS ns = true → ns.length = l.length → (∀ k, k ∈ ns ↔ k ∈ l) → Q (.ref p) s') :
    wpAny (model P w) A (call (.builtin "sorted") [.ref a]) Q E s := by
  obtain ⟨⟨es, ep, t⟩, ho, F, nd, wk⟩ := R
  obtain ⟨hstr, hmem⟩ := txok_keys F
  have len : es.size = l.length := F.sz
  refine Calls.call_function_entry kind_sorted plain_sorted entry_sorted (args_sorted1 _) ?_
  unfold Builtin.«sorted»
  refine wpAny_bind (m := checkCount "sorted" 1 1 _) (wpAny_pure ?_)
  refine wpAny_bind (L2.collect_set (A := A.in1) hh ⟨_, ho, rfl, rfl⟩ F.fit (show es.size < scanBound by omega) wk.1 wk.2 fun s1 vs k1 hz g1 o1 pm => ?_)
  have lv : vs.length = l.length := by rw [pm.length_eq, List.length_map, Array.length_toList]; exact len
  obtain ⟨ks, hks⟩ := strsAre_of vs fun v hv => by
    obtain ⟨e, he, q⟩ := List.mem_map.mp (pm.mem_iff.mp hv)
    obtain ⟨k, t, h⟩ := hstr e he
    exact ⟨k, t, by rw [← q]; exact h⟩
  have ek := strsAre_key hks
  have pk : ∀ k, k ∈ ks ↔ k ∈ l := fun k => by
    rw [hmem k, ek, (pm.map keyV).mem_iff, List.map_map]
    rfl
  have hL : vs.length ≤ sizeLine := by rw [lv]; exact Nat.le_of_lt (Nat.lt_of_lt_of_le hb (by decide))
  refine wpAny_bind (wpAny_newList ?_ hL)
  have hoL : (s1.heap.push (seqObj "list" vs.toArray 0)).get? s1.heap.objs.size = some (seqObj "list" vs.toArray 0) := Heap.get?_push_size _ rfl
  refine wpAny_bind (wpAny_holding (wpAny_call_entry slot_list_sort ⟨_, hoL, rfl⟩ entry_list_sort (list_sort_treeKAny strKind_oneLt hoL hks.keysOf (fun v₁ v₂ rest e => keyKind_strs (by rw [← e]; exact hks)) hL fun st' a1 a2 => ⟨_, rfl, ?_⟩) (args_list_sort _)))
  obtain ⟨ss', h1, h2, h3⟩ := sorted_out_str hks a1 a2
  obtain ⟨c, hc⟩ := sortedHeap_at (vs := vs) (out := (arrOf st').map (·.2)) hoL
  refine wpAny_pure ⟨_, rfl, hQ _ s1.heap.objs.size _ c ss' (fun b u e => ?_) g1 o1 hz hc h1 h3 ?_ (fun k => by rw [h2.mem_iff]; exact pk k)⟩
  · have q := k1 b u e
    have lt := Heap.lt_size q
    refine (sortedHeap_old (Nat.ne_of_lt lt) (by rw [size_push']; exact Nat.lt_succ_of_lt lt)).trans ?_
    exact Heap.get?_push_of_some _ q
  · rw [h2.length_eq, ek, List.length_map]
    exact lv
end
end DL

namespace DL
open PySem L2
theorem perm_len : ∀ {m ns : List Str}, m.Nodup → (∀ z ∈ m, z ∈ ns) → ns.length ≤ m.length → ns.Perm m
  | [], ns, _, _, h => by
    have : ns = [] := List.length_eq_zero_iff.mp (by simpa using h)
    rw [this]
  | x :: m, ns, nd, hm, hl => by
    obtain ⟨hx, nd'⟩ := List.nodup_cons.mp nd
    have hin : x ∈ ns := hm x (List.mem_cons_self ..)
    have p := List.perm_cons_erase hin
    have l2 : (ns.erase x).length = ns.length - 1 := List.length_erase_of_mem hin
    have ih := perm_len (ns := ns.erase x) nd' (fun z hz => by
      have hne : z ≠ x := fun e => hx (e ▸ hz)
      exact (List.mem_erase_of_ne hne).mpr (hm z (List.mem_cons_of_mem _ hz))) (by simp only [List.length_cons] at hl; omega)
    exact p.trans (ih.cons x)
/-- a set of texts as an object of the hand layer -/
def TxSet (P : Program) (w : World) (a : Addr) (l : List Str) : HO := .ext fun h => TxS P w h a l
theorem txset_new {P : Program} {w : World} {H : Hp} {h : Heap} {a : Addr} {l : List Str} (R : TxS P w h a l) : ObjOk P w H h a (TxSet P w a l) := by
  have ⟨_, ho, _⟩ := R
  exact ⟨R, ⟨_, ho⟩, fun h1 h2 p k => p.at k⟩
def rSetT (K : PySem.W.Frag) (P : Program) (w : World) : List V → Hp → VK → Prop := fun vs H Q => ∃ (a : Addr) (ks : List Str), vs = [V.ref a] ∧ (SqL K H a (ks.map V.str) ∨ SqT K H a (ks.map V.str)) ∧ ks.length ≤ 4000 ∧
  ∀ (p : Addr) (m : List Str), H p = none → (∀ z, z ∈ m ↔ z ∈ ks) → m.length ≤ ks.length → Q (.ref p) (upd H p (TxSet P w p m))
def rSortT (P : Program) (w : World) : List V → Hp → VK → Prop := fun vs H Q => ∃ (a : Addr) (m : List Str), vs = [V.ref a] ∧ H a = some (TxSet P w a m) ∧ m.length ≤ 4000 ∧
  ∀ (p : Addr) (ns : List Str), H p = none → PyProof.Rows.sortedS ns = true → ns.length = m.length → (∀ z, z ∈ ns ↔ z ∈ m) → ns.Nodup → Q (.ref p) (upd H p (.lst (ns.map V.str)))
section
variable {X : Cx}
theorem cr_setT (hc : X.calm = true) : CallR X (.type "set") (rSetT X.K X.prog X.w) := by
  intro pins s σ H vs us Q I r h
  obtain ⟨a, ks, rfl, hs, hl, q⟩ := h
  rw [Vals.ref1 r]
  have hd := I.ok.hd hc
  rcases hs with hs | hs
  · obtain ⟨its, rv, pt, hz⟩ := I.list hs
    refine call_set_txL ks hd pt.isList rv.strs (by unfold scanBound; omega) fun h' tk m R hm hlen k => ?_
    exact ⟨.ref _, _, I.laid k (Nat.le_refl _) (txset_new R), rfl, q _ m (I.hok.fresh (Nat.le_refl _)) hm hlen⟩
  · obtain ⟨its, rv, pt, hz⟩ := I.tuple hs
    refine call_set_tx ks hd pt rv.strs (by unfold scanBound; omega) fun h' tk m R hm hlen k => ?_
    exact ⟨.ref _, _, I.laid k (Nat.le_refl _) (txset_new R), rfl, q _ m (I.hok.fresh (Nat.le_refl _)) hm hlen⟩
theorem cr_sortT (hc : X.calm = true) : CallR X (.builtin "sorted") (rSortT X.prog X.w) := by
  intro pins s σ H vs us Q I r h
  obtain ⟨a, m, rfl, ha, hl, q⟩ := h
  rw [Vals.ref1 r]
  have hd := I.ok.hd hc
  have R : TxS X.prog X.w s.heap a m := (I.hok a _ ha).1
  have nd : m.Nodup := by obtain ⟨_, _, _, nd, _⟩ := R; exact nd
  refine sorted_tx R hd (by unfold scanBound; omega) fun s' p out c ns k1 g1 o1 hp hat hstr hso hlen hmem => ?_
  have small : (ns.map V.str).length ≤ sizeLine := by rw [List.length_map, hlen]; exact Nat.le_trans hl (by decide)
  have free : H p = none := I.hok.fresh hp
  have J : Inv X pins σ (upd H p (.lst (ns.map V.str))) { s with heap := s'.heap, gens := s'.gens, drawn := s'.drawn, toks := s'.toks } :=
    I.call (ch := []) (Un.laid k1 hp free) (I.hok.laid k1 hp ⟨small, out.toList, c, vals_of_strs hstr, hat⟩) (by rw [g1]; exact I.bare) (fun _ z => nomatch z)
  have es : s' = { s with heap := s'.heap, gens := s'.gens, drawn := s'.drawn, toks := s'.toks } := by
    cases s'
    cases s
    cases o1
    rfl
  rw [es]
  exact ⟨.ref p, _, J, rfl, q p ns free hso hlen hmem ((perm_len nd (fun z hz => (hmem z).mpr hz) (Nat.le_of_eq hlen)).nodup_iff.mpr nd)⟩
end
/-! ### the data layer's rule: sorted(set(e)) of a list or tuple of texts -/
def textsOf : PyData → Option (List Str)
  | .list l => strsD l
  | .tuple l => strsD l
  | _ => none
def wSortedSet (w : WE) : WE := fun Γ Q X => w Γ (fun r Γ1 => ∃ d ks, rd Γ1 r = some d ∧ textsOf d = some ks ∧ ks.length ≤ 4000 ∧
  ∀ zs : List Str, PyProof.Rows.sortedS zs = true → (∀ z, z ∈ zs ↔ z ∈ ks) → zs.Nodup → zs.length ≤ ks.length → Q (.o (zs.map .str)) Γ1) X
section
variable {X : Cx} {W : WX} {e : Expr} {w : WE} {p1 p2 c1 c2 : Pos}
theorem de_sortedSet (he : DE X W e w) (hm1 : X.mg "sorted" = none) (hm2 : X.mg "set" = none) (hc : X.calm = true := by rfl) (g1 : Gl X "sorted" := by rfl) (g2 : Gl X "set" := by rfl)
    (a1 : starEach [e] X.env = (false, eval e X.env) :: starEach [] X.env := by rfl) (b1 : (backTo c2 (starEach [] X.env)).any (·.1) = false := by rfl)
    (a2 : starEach [.Call (.Name "set" p2) [e] [] c2] X.env = (false, eval (.Call (.Name "set" p2) [e] [] c2) X.env) :: starEach [] X.env := by rfl) (b2 : (backTo c1 (starEach [] X.env)).any (·.1) = false := by rfl) :
    DE X W (.Call (.Name "sorted" p1) [.Call (.Name "set" p2) [e] [] c2] [] c1) (wSortedSet w) := by
  have inner := pe_callTy (p := p2) (pos := c2) (x := "set") (cr_setT hc) g2 hm2 PyProof.Rows.boot_set (pa_cons he.pe pa_nil (hs := a1)) (he := a1) (hpl := b1)
  refine de_of (pe_callB (p := p1) (pos := c1) (x := "sorted") (cr_sortT hc) g1 hm1 (by decide +kernel) (pa_cons inner pa_nil (hs := a2)) (he := a2) (hpl := b2)) fun σ H Kn h => ?_
  obtain ⟨B, F, Γ, Q, Xq, E, hw, k, kx⟩ := h
  refine ⟨B, F, Γ, _, Xq, E, hw, fun v r H1 F1 Γ1 s1 E1 rr q => ?_, kx⟩
  obtain ⟨d, ks, hd, ht, hl, q⟩ := q
  have sh := E1.sh rr hd
  have main : ∀ a : Addr, v = .ref a → (SqL X.K H1 a (ks.map V.str) ∨ SqT X.K H1 a (ks.map V.str)) → rSetT X.K X.prog X.w [v] H1 fun x H2 => rSortT X.prog X.w [x] H2 Kn := fun a ev hs => by
    subst ev
    refine ⟨a, ks, rfl, hs, hl, fun p m hp hm hlen => ⟨p, m, rfl, upd_same, by omega, fun p' ns hp' hso hlen' hmem nd => ?_⟩⟩
    exact k _ (.o (ns.map .str)) _ F1 Γ1 s1 ((E1.layH hp).layH hp') (rr_new (E1.layH hp) hp' (reps_strs ns)) (q ns hso (fun z => by rw [hmem, hm]) nd (by omega))
  cases d with
  | list l =>
    obtain ⟨a, vs, ev, hq, hr⟩ := sh
    rw [strs_reps hr ht] at hq
    exact main a ev (.inl hq)
  | tuple l =>
    obtain ⟨a, vs, ev, hq, hr⟩ := sh
    rw [strs_reps hr ht] at hq
    exact main a ev (.inr (sqt_mono E1.ex hq))
  | _ => cases ht
end
end DL

namespace DL
open PySem L2
/-! ### helpers for the mathematics -/
theorem lcI_fm {t : Tg} {cond : WT} {elt : WE} {vs : List Nat} {Fin : List PyData → G → Prop} {ds : List PyData} {Γ : G} (g : PyData → Option PyData)
    (h : ∀ d ∈ ds, ∀ Kn : Option PyData → G → Prop, Kn (g d) Γ → lcS t cond elt vs Kn d Γ) (f : Fin (ds.filterMap g) Γ) : ∃ I, I [] [] Γ ∧ LcI t cond elt vs Fin ds I := by
  refine ⟨fun pre acc Γ' => acc = pre.filterMap g ∧ Γ' = Γ, ⟨rfl, rfl⟩, ⟨?_, ?_⟩⟩
  · rintro pre d post acc Γ' e ⟨rfl, rfl⟩
    refine h d (by rw [e]; simp) _ ⟨?_, rfl⟩
    rw [List.filterMap_append]
    cases q : g d <;> simp [q]
  · rintro acc Γ' ⟨rfl, rfl⟩
    exact f
theorem lcI_map {t : Tg} {cond : WT} {elt : WE} {vs : List Nat} {Fin : List PyData → G → Prop} {ds : List PyData} {Γ : G} (g : PyData → PyData)
    (h : ∀ d ∈ ds, ∀ Kn : Option PyData → G → Prop, Kn (some (g d)) Γ → lcS t cond elt vs Kn d Γ) (f : Fin (ds.map g) Γ) : ∃ I, I [] [] Γ ∧ LcI t cond elt vs Fin ds I := by
  refine ⟨fun pre acc Γ' => acc = pre.map g ∧ Γ' = Γ, ⟨rfl, rfl⟩, ⟨?_, ?_⟩⟩
  · rintro pre d post acc Γ' e ⟨rfl, rfl⟩
    refine h d (by rw [e]; simp) _ ⟨?_, rfl⟩
    simp
  · rintro acc Γ' ⟨rfl, rfl⟩
    exact f
theorem lcI_fmE {t : Tg} {cond : WT} {elt : WE} {vs : List Nat} {Fin : List PyData → G → Prop} {ds : List PyData} {Γ : G} {α : Type} (xs : List α) (e : α → PyData) (g : α → Option PyData) (hds : ds = xs.map e)
    (h : ∀ x ∈ xs, ∀ Kn : Option PyData → G → Prop, Kn (g x) Γ → lcS t cond elt vs Kn (e x) Γ) (f : Fin (xs.filterMap g) Γ) : ∃ I, I [] [] Γ ∧ LcI t cond elt vs Fin ds I := by
  refine ⟨fun pre acc Γ' => ∃ ys, ys <+: xs ∧ pre = ys.map e ∧ acc = ys.filterMap g ∧ Γ' = Γ, ⟨[], List.nil_prefix, rfl, rfl, rfl⟩, ⟨?_, ?_⟩⟩
  · rintro pre d post acc Γ' q ⟨ys, ⟨zs, hz⟩, rfl, rfl, rfl⟩
    rw [hds, ← hz, List.map_append] at q
    have q2 := List.append_cancel_left q
    cases zs with
    | nil => simp at q2
    | cons z zs =>
      simp only [List.map_cons, List.cons.injEq] at q2
      obtain ⟨q2, _⟩ := q2
      subst q2
      refine h z (by rw [← hz]; simp) _ ⟨ys ++ [z], ⟨zs, by rw [← hz]; simp⟩, by simp, ?_, rfl⟩
      rw [List.filterMap_append]
      cases q : g z <;> simp [q]
  · rintro acc Γ' ⟨ys, hp, q, rfl, rfl⟩
    have hl : ys.length = xs.length := by
      have := congrArg List.length (q.symm.trans hds)
      simpa using this
    rw [hp.eq_of_length hl]
    exact f
theorem lcI_mapE {t : Tg} {cond : WT} {elt : WE} {vs : List Nat} {Fin : List PyData → G → Prop} {ds : List PyData} {Γ : G} {α : Type} (xs : List α) (e : α → PyData) (g : α → PyData) (hds : ds = xs.map e)
    (h : ∀ x ∈ xs, ∀ Kn : Option PyData → G → Prop, Kn (some (g x)) Γ → lcS t cond elt vs Kn (e x) Γ) (f : Fin (xs.map g) Γ) : ∃ I, I [] [] Γ ∧ LcI t cond elt vs Fin ds I :=
  lcI_fmE xs e (fun x => some (g x)) hds h (by rw [List.filterMap_eq_map']; exact f)
theorem bools_map {α : Type} (f : α → Bool) : ∀ l : List α, bools (l.map fun x => PyData.bool (f x)) = some (l.map f)
  | [] => rfl
  | x :: l => by
    show (bools (l.map fun x => PyData.bool (f x))).map (f x :: ·) = _
    rw [bools_map f l]
    rfl
theorem bools_mapB (l : List Bool) : bools (l.map PyData.bool) = some l := by
  have := bools_map id l
  simpa using this
theorem strsD_map (l : List Str) : strsD (l.map PyData.str) = some l := by
  induction l with
  | nil => rfl
  | cons x l ih =>
    show (strsD (l.map PyData.str)).map (x :: ·) = _
    rw [ih]; rfl
/-! ### data of a middling size -/
def okS (s : Str) : Bool := PySem.PyData.strOk s && decide (s.length ≤ 1000000)
mutual
def okD : PyData → Bool
  | .str s => okS s
  | .list l => okDs l && decide (l.length ≤ 1000000)
  | .tuple l => okDs l && decide (l.length ≤ 1000000)
  | .dict _ => false
  | .none => true
  | .bool _ => true
  | .int _ => true
def okDs : List PyData → Bool
  | [] => true
  | x :: xs => okD x && okDs xs
end
theorem okDs_iff : ∀ {l : List PyData}, okDs l = true ↔ ∀ x ∈ l, okD x = true
  | [] => by simp [okDs]
  | x :: xs => by simp [okDs, okDs_iff (l := xs)]
theorem okS_len {s : Str} (h : okS s = true) : s.length ≤ sizeLine := by
  unfold okS at h
  simp only [Bool.and_eq_true, decide_eq_true_eq] at h
  exact Nat.le_trans h.2 (by decide)
theorem okS_len' {s : Str} (h : okS s = true) : s.length ≤ 1000000 := by
  unfold okS at h
  simp only [Bool.and_eq_true, decide_eq_true_eq] at h
  exact h.2
theorem okS_ok {s : Str} (h : okS s = true) : PySem.PyData.strOk s = true := by
  unfold okS at h
  simp only [Bool.and_eq_true, decide_eq_true_eq] at h
  exact h.1
mutual
theorem canLay_ok : ∀ d : PyData, okD d = true → d.canLay0 = true
  | .none, _ => by simp [PyData.canLay0]
  | .bool _, _ => by simp [PyData.canLay0]
  | .int _, _ => by simp [PyData.canLay0]
  | .str s, h => by simp only [PyData.canLay0]; exact okS_ok (by simpa [okD] using h)
  | .list l, h => by simp only [PyData.canLay0]; simp only [okD, Bool.and_eq_true] at h; exact canLays_ok l h.1
  | .tuple l, h => by simp only [PyData.canLay0]; simp only [okD, Bool.and_eq_true] at h; exact canLays_ok l h.1
  | .dict _, h => by simp [okD] at h
theorem canLays_ok : ∀ l : List PyData, okDs l = true → PyData.canLayAll0 l = true
  | [], _ => by simp [PyData.canLayAll0]
  | x :: xs, h => by
    simp only [okDs, Bool.and_eq_true] at h
    simp only [PyData.canLayAll0, Bool.and_eq_true]
    exact ⟨canLay_ok x h.1, canLays_ok xs h.2⟩
end
theorem shaped_ok {d : PyData} (h : okD d = true) (hd : d.depth ≤ 64) : SeqAt.shaped d = true := by
  unfold SeqAt.shaped
  rw [canLay_ok d h, decide_eq_true hd]
  rfl
end DL
namespace DL
open PySem L2
def isStrD : PyData → Bool | .str _ => true | _ => false
def isIntD : PyData → Bool | .int _ => true | .bool _ => true | _ => false
def isBoolD : PyData → Bool | .bool _ => true | _ => false
def isTupD : PyData → Bool | .tuple _ => true | _ => false
def isLstD : PyData → Bool | .list _ => true | _ => false
def isDicD : PyData → Bool | .dict _ => true | _ => false
theorem isA_str (d : PyData) : isA "str" d = isStrD d := by cases d <;> simp [isA, tyS, isStrD]
theorem isA_int (d : PyData) : isA "int" d = isIntD d := by cases d <;> simp [isA, tyS, isIntD]
theorem isA_bool (d : PyData) : isA "bool" d = isBoolD d := by cases d <;> simp [isA, tyS, isBoolD]
theorem isA_tuple (d : PyData) : isA "tuple" d = isTupD d := by cases d <;> simp [isA, tyS, isTupD]
theorem isA_list (d : PyData) : isA "list" d = isLstD d := by cases d <;> simp [isA, tyS, isLstD]
theorem isA_dict (d : PyData) : isA "dict" d = isDicD d := by cases d <;> simp [isA, tyS, isDicD]
def sg (c : Nat) : Str := ⟨#[c]⟩
theorem le1n (n : Nat) : decide ((1 : Int) ≤ (n : Int)) = decide (1 ≤ n) := by apply decide_eq_decide.mpr; omega
theorem leI (n m : Nat) : decide ((n : Int) ≤ (m : Int)) = decide (n ≤ m) := by apply decide_eq_decide.mpr; omega
theorem ltI (n m : Nat) : decide ((n : Int) < (m : Int)) = decide (n < m) := by apply decide_eq_decide.mpr; omega
end DL

namespace DL
open PySem L2
theorem atI_nat {α : Type} {xs : List α} {k : Nat} {x : α} (h : xs[k]? = some x) : atI xs ((k : Nat) : Int) = some x := by
  have hk : k < xs.length := (List.getElem?_eq_some_iff.mp h).1
  unfold atI ixN
  rw [if_pos (by omega), if_pos (by omega)]
  simpa using h
theorem atI_last {α : Type} {xs : List α} {x : α} (h : xs.getLast? = some x) : atI xs (-1) = some x := by
  unfold atI ixN
  rw [if_neg (by omega)]
  have hk : xs.length ≠ 0 := by intro e; rw [List.length_eq_zero_iff.mp e] at h; cases h
  rw [if_pos (by omega)]
  rw [List.getLast?_eq_getElem?] at h
  have : ((-1 : Int) + (xs.length : Int)).toNat = xs.length - 1 := by omega
  simp only [Option.bind_some, this]
  exact h
theorem atI_pred {α : Type} {xs : List α} {x : α} (h : xs.getLast? = some x) : atI xs ((xs.length : Int) - 1) = some x := by
  have hk : xs.length ≠ 0 := by intro e; rw [List.length_eq_zero_iff.mp e] at h; cases h
  rw [List.getLast?_eq_getElem?] at h
  have := atI_nat (k := xs.length - 1) h
  rw [show ((xs.length : Int) - 1) = ((xs.length - 1 : Nat) : Int) by omega]
  exact this
/-- data of a middling size and depth -/
def sd (d : PyData) : Prop := okD d = true ∧ d.depth ≤ 64
def sds (l : List PyData) : Prop := ∀ d ∈ l, sd d
theorem eqOk_sd {x y : PyData} (hx : sd x) (hy : sd y) : eqOk x y := .inr ⟨shaped_ok hx.1 hx.2, shaped_ok hy.1 hy.2⟩
theorem depth_mem : ∀ {l : List PyData} {d : PyData}, d ∈ l → d.depth ≤ PyData.depthAll l
  | x :: l, d, h => by
    simp only [PyData.depthAll]
    rcases List.mem_cons.mp h with rfl | h
    · omega
    · have := depth_mem h; omega
theorem depthAll_le : ∀ {l : List PyData} {n : Nat}, (∀ d ∈ l, d.depth ≤ n) → PyData.depthAll l ≤ n
  | [], _, _ => by simp [PyData.depthAll]
  | x :: l, n, h => by
    simp only [PyData.depthAll]
    have := depthAll_le (l := l) (fun d hd => h d (List.mem_cons_of_mem _ hd))
    have := h x (List.mem_cons_self ..)
    omega
theorem ok_tup {l : List PyData} (h : ∀ d ∈ l, okD d = true) (hl : l.length ≤ 1000000 := by decide) : okD (.tuple l) = true := by simp only [okD, Bool.and_eq_true, decide_eq_true_eq]; exact ⟨okDs_iff.mpr h, hl⟩
theorem ok_lst {l : List PyData} (h : ∀ d ∈ l, okD d = true) (hl : l.length ≤ 1000000 := by decide) : okD (.list l) = true := by simp only [okD, Bool.and_eq_true, decide_eq_true_eq]; exact ⟨okDs_iff.mpr h, hl⟩
theorem of_tup {l : List PyData} (h : okD (.tuple l) = true) : ∀ d ∈ l, okD d = true := by simp only [okD, Bool.and_eq_true] at h; exact okDs_iff.mp h.1
theorem of_lst {l : List PyData} (h : okD (.list l) = true) : ∀ d ∈ l, okD d = true := by simp only [okD, Bool.and_eq_true] at h; exact okDs_iff.mp h.1
theorem len_tup {l : List PyData} (h : okD (.tuple l) = true) : l.length ≤ 1000000 := by simp only [okD, Bool.and_eq_true, decide_eq_true_eq] at h; exact h.2
theorem len_lst {l : List PyData} (h : okD (.list l) = true) : l.length ≤ 1000000 := by simp only [okD, Bool.and_eq_true, decide_eq_true_eq] at h; exact h.2
theorem lz {n : Nat} (h : n ≤ 1000000) : n < sizeLine := Nat.lt_of_le_of_lt h (by decide)
theorem sd_tup {l : List PyData} (h : sd (.tuple l)) : sds l := fun d hd => by
  obtain ⟨h1, h2⟩ := h
  refine ⟨of_tup h1 d hd, ?_⟩
  have := depth_mem hd
  simp only [PyData.depth] at h2
  omega
theorem sd_lst {l : List PyData} (h : sd (.list l)) : sds l := fun d hd => by
  obtain ⟨h1, h2⟩ := h
  refine ⟨of_lst h1 d hd, ?_⟩
  have := depth_mem hd
  simp only [PyData.depth] at h2
  omega
theorem sd_str {s : Str} (h : okS s = true) : sd (.str s) := ⟨by simpa [okD] using h, by simp [PyData.depth]⟩
theorem sd_none : sd .none := ⟨rfl, by simp [PyData.depth]⟩
theorem sd_int (i : Int) : sd (.int i) := ⟨rfl, by simp [PyData.depth]⟩
theorem sd_bool (i : Bool) : sd (.bool i) := ⟨rfl, by simp [PyData.depth]⟩
theorem dp_tup {l : List PyData} {n : Nat} (h : ∀ d ∈ l, d.depth ≤ n) : (PyData.tuple l).depth ≤ n + 1 := by
  simp only [PyData.depth]; have := depthAll_le h; omega
theorem ok_str {s : Str} (h : okS s = true) : okD (.str s) = true := by simpa [okD] using h
theorem eqv_str (x y : Str) : PyData.eqv (.str x) (.str y) = (x == y) := by simp [PyData.eqv]
theorem eqv_int (x y : Int) : PyData.eqv (.int x) (.int y) = (x == y) := by simp [PyData.eqv]
theorem eqv_bool (x y : Bool) : PyData.eqv (.bool x) (.bool y) = (x == y) := by simp [PyData.eqv]
theorem sg_eq {s : Str} {k c : Nat} (h : s.cps.toList = [k]) : (sg c == s) = (c == k) := by
  have : s = sg k := by
    cases s with | mk a => show (⟨a⟩ : Str) = ⟨#[k]⟩; congr 1; apply Array.toList_inj.mp; simpa using h
  subst this
  rw [Bool.eq_iff_iff]
  simp [sg]
end DL

namespace DL
open PySem L2
section
variable (Q : R → Prop) (i j : Int) (a b z : Str) (l m : List PyData)
theorem F_add_i : fAdd (.int i) (.int j) Q = Q (.d (.int (i + j))) := rfl
theorem F_add_s : fAdd (.str a) (.str b) Q = (a.length + b.length ≤ sizeLine ∧ Q (.d (.str (a ++ b)))) := rfl
theorem F_add_l : fAdd (.list l) (.list m) Q = (l.length + m.length ≤ sizeLine ∧ Q (.o (l ++ m))) := rfl
theorem F_add_t : fAdd (.tuple l) (.tuple m) Q = (l.length + m.length ≤ sizeLine ∧ Q (.d (.tuple (l ++ m)))) := rfl
theorem F_int (C : Int → Int → Prop) (g : Int → Int → Int) : fInt C g (.int i) (.int j) Q = (C i j ∧ Q (.d (.int (g i j)))) := rfl
theorem F_cmp_i (g : Int → Int → Bool) (h : List Nat → List Nat → Bool) : fCmp g h (.int i) (.int j) Q = Q (.d (.bool (g i j))) := rfl
theorem F_cmp_s (g : Int → Int → Bool) (h : List Nat → List Nat → Bool) : fCmp g h (.str a) (.str b) Q = Q (.d (.bool (h a.cps.toList b.cps.toList))) := rfl
theorem F_in_l (n : Bool) (x : PyData) : fIn n x (.list l) Q = (flat x = true ∧ l.all flat = true ∧ Q (.d (.bool (if n then !inD x l else inD x l)))) := rfl
theorem F_in_t (n : Bool) (x : PyData) : fIn n x (.tuple l) Q = (flat x = true ∧ l.all flat = true ∧ Q (.d (.bool (if n then !inD x l else inD x l)))) := rfl
theorem F_in_s (n : Bool) (x : PyData) : fIn n x (.str z) Q = (∃ c, x = .str (sg c) ∧ Q (.d (.bool (if n then !decide (c ∈ z.cps.toList) else decide (c ∈ z.cps.toList))))) := rfl
theorem F_ix_l : fIx (.list l) (.int i) Q = ∃ d, atI l i = some d ∧ Q (.d d) := rfl
theorem F_ix_t : fIx (.tuple l) (.int i) Q = ∃ d, atI l i = some d ∧ Q (.d d) := rfl
theorem F_ix_s : fIx (.str z) (.int i) Q = (z.length ≤ sizeLine ∧ ∃ c, atI z.cps.toList i = some c ∧ Q (.d (.str (sg c)))) := rfl
variable (lo hi : Option Int)
theorem F_sl_l : fSl (.list l) lo hi Q = Q (.o (cutL l lo hi)) := rfl
theorem F_sl_t : fSl (.tuple l) lo hi Q = Q (.d (.tuple (cutL l lo hi))) := rfl
theorem F_sl_s : fSl (.str z) lo hi Q = (z.length ≤ sizeLine ∧ Q (.d (.str (cutS z lo hi)))) := rfl
theorem F_len_l : fLen [.list l] Q = Q (.d (.int (l.length : Int))) := rfl
theorem F_len_t : fLen [.tuple l] Q = Q (.d (.int (l.length : Int))) := rfl
theorem F_len_s : fLen [.str z] Q = (z.length ≤ sizeLine ∧ Q (.d (.int (z.length : Int)))) := rfl
theorem F_toInt : fToInt [.int i] Q = Q (.d (.int i)) := rfl
theorem F_toStr : fToStr [.int i] Q = (i.natAbs.log2 < 1920 ∧ Q (.d (.str (Str.ofString (toString i))))) := rfl
theorem F_toTup_l : fToTup [.list l] Q = Q (.d (.tuple l)) := rfl
theorem F_toTup_t : fToTup [.tuple l] Q = Q (.d (.tuple l)) := rfl
theorem F_toLst_l : fToLst [.list l] Q = Q (.o l) := rfl
theorem F_toLst_t : fToLst [.tuple l] Q = Q (.o l) := rfl
theorem F_all : fAll [.list l] Q = ∃ bs, bools l = some bs ∧ Q (.d (.bool (bs.all id))) := rfl
theorem F_any : fAny [.list l] Q = ∃ bs, bools l = some bs ∧ Q (.d (.bool (bs.any id))) := rfl
theorem F_split : fSplit (.str a) (.str b) Q = ((b.length == 0) = false ∧ a.length + 2 ≤ sizeLine ∧ Q (.o ((Txt.split a b).map .str))) := rfl
theorem F_join_l : fJoin (.str a) (.list l) Q = ∃ ys, strsD l = some ys ∧ (ys.map (·.length)).sum + ys.length * a.length ≤ 16777216 ∧ Q (.d (.str (Txt.join a ys))) := rfl
theorem F_join_t : fJoin (.str a) (.tuple l) Q = ∃ ys, strsD l = some ys ∧ (ys.map (·.length)).sum + ys.length * a.length ≤ 16777216 ∧ Q (.d (.str (Txt.join a ys))) := rfl
theorem F_part : fPart (.str a) (.str b) Q = ((b.length == 0) = false ∧ a.length ≤ sizeLine ∧ Q (.d (.tuple [.str (Txt.partition a b).1, .str (Txt.partition a b).2.1, .str (Txt.partition a b).2.2]))) := rfl
theorem F_start : fStart (.str a) (.str b) Q = Q (.d (.bool (Txt.startswith a b))) := rfl
theorem F_end : fEnd (.str a) (.str b) Q = Q (.d (.bool (Txt.endswith a b))) := rfl
theorem F_strip (g : Str → Str → Str) : fStripC g (.str a) (.str b) Q = (a.length ≤ sizeLine ∧ Q (.d (.str (g a b)))) := rfl
theorem F_sorted_l : fSorted [.list l] Q = ∃ ys, strsD l = some ys ∧ ∀ zs : List Str, zs.Perm ys → PyProof.Rows.sortedS zs = true → Q (.o (zs.map .str)) := rfl
theorem F_sorted_t : fSorted [.tuple l] Q = ∃ ys, strsD l = some ys ∧ ∀ zs : List Str, zs.Perm ys → PyProof.Rows.sortedS zs = true → Q (.o (zs.map .str)) := rfl
theorem N_none : isNone .none = true := rfl
theorem N_str : isNone (.str a) = false := rfl
theorem N_int : isNone (.int i) = false := rfl
theorem N_bool (p : Bool) : isNone (.bool p) = false := rfl
theorem N_tup : isNone (.tuple l) = false := rfl
theorem N_lst : isNone (.list l) = false := rfl
theorem S_str : isStrD (.str a) = true := rfl
theorem S_none : isStrD .none = false := rfl
theorem S_int : isStrD (.int i) = false := rfl
theorem S_bool (p : Bool) : isStrD (.bool p) = false := rfl
theorem S_tup : isStrD (.tuple l) = false := rfl
theorem S_lst : isStrD (.list l) = false := rfl
theorem I_str : isIntD (.str a) = false := rfl
theorem I_none : isIntD .none = false := rfl
theorem I_int : isIntD (.int i) = true := rfl
theorem I_bool (p : Bool) : isIntD (.bool p) = true := rfl
theorem I_tup : isIntD (.tuple l) = false := rfl
theorem I_lst : isIntD (.list l) = false := rfl
theorem B_str : isBoolD (.str a) = false := rfl
theorem B_none : isBoolD .none = false := rfl
theorem B_int : isBoolD (.int i) = false := rfl
theorem B_bool (p : Bool) : isBoolD (.bool p) = true := rfl
theorem B_tup : isBoolD (.tuple l) = false := rfl
theorem B_lst : isBoolD (.list l) = false := rfl
theorem T_str : isTupD (.str a) = false := rfl
theorem T_none : isTupD .none = false := rfl
theorem T_int : isTupD (.int i) = false := rfl
theorem T_bool (p : Bool) : isTupD (.bool p) = false := rfl
theorem T_tup : isTupD (.tuple l) = true := rfl
theorem T_lst : isTupD (.list l) = false := rfl
theorem L_str : isLstD (.str a) = false := rfl
theorem L_none : isLstD .none = false := rfl
theorem L_int : isLstD (.int i) = false := rfl
theorem L_bool (p : Bool) : isLstD (.bool p) = false := rfl
theorem L_tup : isLstD (.tuple l) = false := rfl
theorem L_lst : isLstD (.list l) = true := rfl
theorem D_str : isDicD (.str a) = false := rfl
theorem D_none : isDicD .none = false := rfl
theorem D_int : isDicD (.int i) = false := rfl
theorem D_bool (p : Bool) : isDicD (.bool p) = false := rfl
theorem D_tup : isDicD (.tuple l) = false := rfl
theorem D_lst : isDicD (.list l) = false := rfl
theorem N_dic (k : List (PyData × PyData)) : isNone (.dict k) = false := rfl
theorem S_dic (k : List (PyData × PyData)) : isStrD (.dict k) = false := rfl
theorem I_dic (k : List (PyData × PyData)) : isIntD (.dict k) = false := rfl
theorem B_dic (k : List (PyData × PyData)) : isBoolD (.dict k) = false := rfl
theorem T_dic (k : List (PyData × PyData)) : isTupD (.dict k) = false := rfl
theorem L_dic (k : List (PyData × PyData)) : isLstD (.dict k) = false := rfl
theorem D_dic (k : List (PyData × PyData)) : isDicD (.dict k) = true := rfl
theorem E_ss : eqOk (.str a) (.str b) = True := eq_true (.inl rfl)
theorem E_ii : eqOk (.int i) (.int j) = True := eq_true (.inl rfl)
theorem E_bb (p q : Bool) : eqOk (.bool p) (.bool q) = True := eq_true (.inl rfl)
theorem E_ns : eqOk .none (.str b) = True := eq_true (.inl rfl)
theorem E_is : eqOk (.int i) (.str b) = True := eq_true (.inl rfl)
theorem E_bs (p : Bool) : eqOk (.bool p) (.str b) = True := eq_true (.inl rfl)
theorem E_nn : eqOk .none .none = True := eq_true (.inl rfl)
end
section
variable (Γ : G) (x : PyData) (l : List PyData) (i : Nat)
theorem rd_d : rd Γ (.d x) = some x := rfl
theorem rd_o : rd Γ (.o l) = some (.list l) := rfl
theorem rd_b : rd Γ (.b i) = match Γ[i]? with
    | some s => s.mu.map .list
    | none => none := rfl
theorem rdf_d : rdf (.d x) = some x := rfl
theorem rdf_o : rdf (.o l) = some (.list l) := rfl
theorem fz_d : R.fz (.d x) = .d x := rfl
theorem fz_o : R.fz (.o l) = .d (.list l) := rfl
theorem fz_b : R.fz (.b i) = .b i := rfl
theorem sl_d : R.sl (.d x) = .v x := rfl
theorem sl_o : R.sl (.o l) = .own l := rfl
theorem ok_d : R.ok (.d x) = True := rfl
theorem ok_o : R.ok (.o l) = True := rfl
theorem argSl_d : argSl Γ (.d x) = some (.v x) := rfl
theorem argSl_o : argSl Γ (.o l) = some (.v (.list l)) := rfl
theorem argSl_b : argSl Γ (.b i) = match Γ[i]? with
    | some s => s.mu.map Sl.cell
    | none => none := rfl
theorem X_txl : textsOf (.list l) = strsD l := rfl
theorem X_txt : textsOf (.tuple l) = strsD l := rfl
theorem items_l : items (.list l) = some l := rfl
theorem items_t : items (.tuple l) = some l := rfl
theorem items_s (s : Str) : items (.str s) = some (signs s) := rfl
end
end DL

namespace DL
open PySem L2
theorem forI_E {t : Tg} {body : WS} {P : Pst} {ds : List PyData} {Γ1 : G} {α : Type} (xs : List α) (e : α → PyData) (J : List α → G → Prop) (hds : ds = xs.map e) (i0 : J [] Γ1)
    (step : ∀ pre x post Γ, xs = pre ++ x :: post → J pre Γ → ∀ N : G → Prop, (∀ Γ', J (pre ++ [x]) Γ' → N Γ') → wG t (e x) Γ (fun Γ2 => body Γ2 { nx := N, rt := P.rt, bk := P.nx, ct := N, xc := P.xc }))
    (fin : ∀ Γ, J xs Γ → P.nx Γ) : ∃ I, I [] Γ1 ∧ ForI t body P ds I := by
  refine ⟨fun pre Γ => ∃ ys, ys <+: xs ∧ pre = ys.map e ∧ J ys Γ, ⟨[], List.nil_prefix, rfl, i0⟩, ⟨?_, ?_⟩⟩
  · rintro pre d post Γ q ⟨ys, ⟨zs, hz⟩, rfl, hj⟩
    rw [hds, ← hz, List.map_append] at q
    have q2 := List.append_cancel_left q
    cases zs with
    | nil => simp at q2
    | cons z zs =>
      simp only [List.map_cons, List.cons.injEq] at q2
      obtain ⟨q2, _⟩ := q2
      subst q2
      exact step ys z zs Γ hz.symm hj _ fun Γ' h => ⟨ys ++ [z], ⟨zs, by rw [← hz]; simp⟩, by simp, h⟩
  · rintro Γ ⟨ys, hp, q, hj⟩
    have hl : ys.length = xs.length := by
      have := congrArg List.length (q.symm.trans hds)
      simpa using this
    rw [hp.eq_of_length hl] at hj
    exact fin Γ hj
def nc : Sl → Prop
  | .cell _ => False
  | _ => True
theorem rangeL_map (a : Int) (n : Nat) : rangeL a n = (List.range n).map fun (i : Nat) => PyData.int (a + i) := rfl
theorem inR_of {n : Nat} (h : n ≤ 1000000) : inR (n : Int) := ⟨by omega, by omega⟩
def ncO : Option Sl → Prop
  | some s => nc s
  | none => False
theorem ncO_some (s : Sl) : ncO (some s) = nc s := rfl
theorem nc_v (d : PyData) : nc (.v d) = True := rfl
theorem nc_own (d : List PyData) : nc (.own d) = True := rfl
theorem nc_no : nc .no = True := rfl
theorem stOk_eq (Γ : G) (i : Nat) : stOk Γ i = ncO Γ[i]? := by
  unfold stOk ncO
  cases Γ[i]? with
  | none => rfl
  | some s => cases s <;> rfl
theorem cpow10 : CPow 10 18 := ⟨by decide, by decide, by decide⟩
theorem cmulR (i j : Int) (h : -(2 ^ 64) < j ∧ j < 2 ^ 64 := by decide) : CMul i j := .inr h
theorem cmulL (i j : Int) (h : -(2 ^ 64) < i ∧ i < 2 ^ 64 := by decide) : CMul i j := .inl h
theorem inR_c {i : Int} (h : -(2 ^ 62) ≤ i ∧ i < 2 ^ 62 := by decide) : inR i := h
theorem cut63 (ns : List Int) : cutL (ns.map PyData.int) none (some 63) = (ns.take 63).map PyData.int := by
  unfold cutL HT.sIx
  simp
theorem mod_lt (i : Int) {j : Int} (h : 0 < j) : 0 ≤ i % j ∧ i % j < j := ⟨Int.emod_nonneg _ (by omega), Int.emod_lt_of_pos _ h⟩
/-! ### texts by their codes -/
def ofL (cs : List Nat) : Str := ⟨cs.toArray⟩
theorem ofL_len (cs : List Nat) : (ofL cs).length = cs.length := by simp [ofL, Str.length]
theorem ofL_l (cs : List Nat) : (ofL cs).cps.toList = cs := by simp [ofL]
theorem ofL_of (s : Str) : ofL s.cps.toList = s := by cases s; simp [ofL]
theorem ofL_append (a b : List Nat) : ofL a ++ ofL b = ofL (a ++ b) := by
  show (⟨a.toArray ++ b.toArray⟩ : Str) = _
  simp [ofL]
theorem cutS_init (cs : List Nat) (h : 1 ≤ cs.length) : cutS (ofL cs) none (some ((cs.length : Int) - 1)) = ofL cs.dropLast := by
  unfold cutS
  rw [ofL_l, ofL_len]
  simp only [HT.sIx_none]
  rw [show ((cs.length : Int) - 1) = ((cs.length - 1 : Nat) : Int) by omega, HT.sIx_nat]
  simp only [List.drop_zero, Nat.sub_zero]
  rw [Nat.min_eq_left (by omega), ← List.dropLast_eq_take]
  rfl
theorem okS_ofL {cs : List Nat} (h : ∀ c ∈ cs, c < 0x110000) (hl : cs.length ≤ 1000000) : okS (ofL cs) = true := by
  unfold okS PySem.PyData.strOk
  rw [Bool.and_eq_true, decide_eq_true_eq, ofL_len]
  refine ⟨?_, hl⟩
  simp only [ofL, List.all_toArray, List.all_eq_true, decide_eq_true_eq]
  exact h
end DL

namespace DL
open PySem L2
theorem lcI_E {t : Tg} {cond : WT} {elt : WE} {vs : List Nat} {Fin : List PyData → G → Prop} {ds : List PyData} {Γ : G} {α : Type} (xs : List α) (e : α → PyData) (J : List α → List PyData → G → Prop) (hds : ds = xs.map e) (i0 : J [] [] Γ)
    (step : ∀ pre x post acc Γ, xs = pre ++ x :: post → J pre acc Γ → ∀ Kn : Option PyData → G → Prop, (∀ o Γ', J (pre ++ [x]) (acc ++ o.toList) Γ' → Kn o Γ') → lcS t cond elt vs Kn (e x) Γ)
    (fin : ∀ acc Γ, J xs acc Γ → Fin acc Γ) : ∃ I, I [] [] Γ ∧ LcI t cond elt vs Fin ds I := by
  refine ⟨fun pre acc Γ => ∃ ys, ys <+: xs ∧ pre = ys.map e ∧ J ys acc Γ, ⟨[], List.nil_prefix, rfl, i0⟩, ⟨?_, ?_⟩⟩
  · rintro pre d post acc Γ q ⟨ys, ⟨zs, hz⟩, rfl, hj⟩
    rw [hds, ← hz, List.map_append] at q
    have q2 := List.append_cancel_left q
    cases zs with
    | nil => simp at q2
    | cons z zs =>
      simp only [List.map_cons, List.cons.injEq] at q2
      obtain ⟨q2, _⟩ := q2
      subst q2
      exact step ys z zs acc Γ hz.symm hj _ fun o Γ' h => ⟨ys ++ [z], ⟨zs, by rw [← hz]; simp⟩, by simp, h⟩
  · rintro acc Γ ⟨ys, hp, q, hj⟩
    have hl : ys.length = xs.length := by
      have := congrArg List.length (q.symm.trans hds)
      simpa using this
    rw [hp.eq_of_length hl] at hj
    exact fin acc Γ hj
/-! ### texts in order -/
def sLt (a b : Str) : Prop := a.cps.toList < b.cps.toList
instance (a b : Str) : Decidable (sLt a b) := by unfold sLt; infer_instance
theorem str_ext {a b : Str} (h : a.cps.toList = b.cps.toList) : a = b := by rw [← ofL_of a, ← ofL_of b, h]
theorem sLt_irrefl (a : Str) : ¬ sLt a a := List.lt_irrefl _
theorem sLt_trans {a b c : Str} (h : sLt a b) (h2 : sLt b c) : sLt a c := List.lt_trans h h2
theorem sLt_asymm {a b : Str} (h : sLt a b) : ¬ sLt b a := fun h2 => sLt_irrefl a (sLt_trans h h2)
theorem sLt_tri (a b : Str) : sLt a b ∨ a = b ∨ sLt b a := by
  by_cases h : sLt a b
  · exact .inl h
  · by_cases h2 : sLt b a
    · exact .inr (.inr h2)
    · exact .inr (.inl (str_ext (List.le_antisymm (List.not_lt.mp h2) (List.not_lt.mp h))))
def Rise (l : List Str) : Prop := l.Pairwise sLt
theorem rise_unique : ∀ {a b : List Str}, Rise a → Rise b → (∀ s, s ∈ a ↔ s ∈ b) → a = b
  | [], [], _, _, _ => rfl
  | [], y :: b, _, _, h => by have := (h y).mpr (List.mem_cons_self ..); cases this
  | x :: a, [], _, _, h => by have := (h x).mp (List.mem_cons_self ..); cases this
  | x :: a, y :: b, ha, hb, h => by
    obtain ⟨ha1, ha2⟩ := List.pairwise_cons.mp ha
    obtain ⟨hb1, hb2⟩ := List.pairwise_cons.mp hb
    have exy : x = y := by
      rcases List.mem_cons.mp ((h x).mp (List.mem_cons_self ..)) with e | e
      · exact e
      · rcases List.mem_cons.mp ((h y).mpr (List.mem_cons_self ..)) with e2 | e2
        · exact e2.symm
        · exact absurd (hb1 x e) (sLt_asymm (ha1 y e2))
    subst exy
    congr 1
    refine rise_unique ha2 hb2 fun s => ⟨fun hs => ?_, fun hs => ?_⟩
    · rcases List.mem_cons.mp ((h s).mp (List.mem_cons_of_mem _ hs)) with e | e
      · subst e; exact absurd (ha1 _ hs) (sLt_irrefl _)
      · exact e
    · rcases List.mem_cons.mp ((h s).mpr (List.mem_cons_of_mem _ hs)) with e | e
      · subst e; exact absurd (hb1 _ hs) (sLt_irrefl _)
      · exact e
theorem risingS_pw : ∀ {p : Str} {l : List Str}, PyProof.Rows.risingS p l = true → (p :: l).Pairwise fun a b => ¬ sLt b a
  | p, [], _ => by simp
  | p, x :: l, h => by
    simp only [PyProof.Rows.risingS, Bool.and_eq_true, PyProof.Rows.ltCps_eq, Bool.not_eq_true', decide_eq_false_iff_not] at h
    obtain ⟨h1, h2⟩ := h
    have ih := risingS_pw h2
    refine List.pairwise_cons.mpr ⟨fun b hb => ?_, ih⟩
    rcases List.mem_cons.mp hb with rfl | hb
    · exact h1
    · have h3 := (List.pairwise_cons.mp ih).1 b hb
      intro h4
      rcases sLt_tri p x with z | z | z
      · exact h3 (sLt_trans h4 z)
      · subst z; exact h3 h4
      · exact h1 z
theorem sortedS_pw : ∀ {l : List Str}, PyProof.Rows.sortedS l = true → l.Pairwise fun a b => ¬ sLt b a
  | [], _ => by simp
  | x :: l, h => risingS_pw h
theorem inD_strs (s : Str) : ∀ l : List Str, inD (.str s) (l.map .str) = decide (s ∈ l)
  | [] => by simp [inD]
  | x :: l => by
    have ih := inD_strs s l
    unfold inD at ih ⊢
    rw [List.map_cons, List.any_cons, ih, eqv_str]
    rw [Bool.eq_iff_iff]
    simp only [Bool.or_eq_true, beq_iff_eq, decide_eq_true_eq, List.mem_cons]
    constructor
    · rintro (h | h)
      · exact .inl h.symm
      · exact .inr h
    · rintro (h | h)
      · exact .inl h.symm
      · exact .inr h
theorem flat_strs (l : List Str) : (l.map PyData.str).all flat = true := by simp [flat]
theorem flat_str (s : Str) : flat (.str s) = true := rfl
end DL

namespace DL
open PySem L2
abbrev txs (l : List Str) : List PyData := l.map .str
/-- what a list holds at a drawn place -/
theorem atI_map {α : Type} (e : α → PyData) (l : List α) {r : Int} (h0 : 0 ≤ r) (h1 : r < (l.length : Int)) : ∃ x, x ∈ l ∧ atI (l.map e) r = some (e x) := by
  have hk : r.toNat < l.length := by omega
  refine ⟨l[r.toNat], List.getElem_mem _, ?_⟩
  have := atI_nat (xs := l.map e) (k := r.toNat) (x := e l[r.toNat]) (by simp [hk])
  rwa [show ((r.toNat : Nat) : Int) = r by omega] at this
/-! ### letters, items -/
def isLetterN (c : Nat) : Bool := (decide (97 ≤ c) && decide (c ≤ 122)) || ((decide (65 ≤ c) && decide (c ≤ 90)) || (decide (48 ≤ c) && decide (c ≤ 57)))
def hasSignsS (s signs : Str) : Bool := (decide (1 ≤ s.length) && decide (s.length ≤ 40)) && s.cps.toList.all fun c => isLetterN c || decide (c ∈ signs.cps.toList)
def itemSigns : Str := "_-/.:@"
theorem cdot : (Str.ofString ".").cps.toList = [46] := by decide +kernel
def isItemS (s : Str) : Bool := hasSignsS s itemSigns && (s.cps.toList.getLast? != some 46)
def isItemWord (d : PyData) : Bool := match d with
  | .str s => isItemS s
  | _ => false
def isIt (s : Str) : Prop := okS s = true ∧ isItemS s = true
def okc (c : Nat) : Bool := isLetterN c || decide (c ∈ itemSigns.cps.toList)
theorem isig : itemSigns.cps.toList = [95, 45, 47, 46, 58, 64] := by decide +kernel
theorem okc_lt {c : Nat} (h : okc c = true) : c < 0x110000 := by
  unfold okc isLetterN at h
  rw [isig] at h
  simp at h
  omega
theorem isIt_codes {cs : List Nat} (h1 : 1 ≤ cs.length) (h2 : cs.length ≤ 40) (h : ∀ c ∈ cs, okc c = true) (hl : cs.getLast? ≠ some 46) : isIt (ofL cs) := by
  refine ⟨okS_ofL (fun c hc => okc_lt (h c hc)) (by omega), ?_⟩
  unfold isItemS hasSignsS
  rw [ofL_len, ofL_l]
  simp only [Bool.and_eq_true, decide_eq_true_eq, bne_iff_ne]
  exact ⟨⟨⟨h1, h2⟩, List.all_eq_true.mpr h⟩, hl⟩
theorem areIt_all {xs : List Str} (h : ∀ s ∈ xs, isIt s) : (txs xs).all isItemWord = true := by
  rw [List.all_eq_true]
  intro d hd
  obtain ⟨s, hs, rfl⟩ := List.mem_map.mp hd
  exact (h s hs).2
theorem ok_txs {xs : List Str} (h : ∀ s ∈ xs, isIt s) : ∀ d ∈ txs xs, okD d = true := fun d hd => by
  obtain ⟨s, hs, rfl⟩ := List.mem_map.mp hd
  exact ok_str (h s hs).1
theorem dp_txs (xs : List Str) : ∀ d ∈ txs xs, d.depth ≤ 0 := fun d hd => by
  obtain ⟨s, _, rfl⟩ := List.mem_map.mp hd
  exact Nat.le_refl _
/-! ### strictly rising texts -/
def insS (x : Str) : List Str → List Str
  | [] => [x]
  | y :: l => if sLt x y then x :: y :: l else if x = y then y :: l else y :: insS x l
def riseF : List Str → List Str
  | [] => []
  | x :: l => insS x (riseF l)
theorem mem_insS {x s : Str} : ∀ {l : List Str}, s ∈ insS x l ↔ s = x ∨ s ∈ l
  | [] => by simp [insS]
  | y :: l => by
    unfold insS
    by_cases h1 : sLt x y
    · rw [if_pos h1]; simp
    · rw [if_neg h1]
      by_cases h2 : x = y
      · rw [if_pos h2]; subst h2; simp
      · rw [if_neg h2, List.mem_cons, mem_insS, List.mem_cons]
        constructor
        · rintro (a | a | a)
          · exact .inr (.inl a)
          · exact .inl a
          · exact .inr (.inr a)
        · rintro (a | a | a)
          · exact .inr (.inl a)
          · exact .inl a
          · exact .inr (.inr a)
theorem rise_insS {x : Str} : ∀ {l : List Str}, Rise l → Rise (insS x l)
  | [], _ => List.pairwise_singleton ..
  | y :: l, h => by
    obtain ⟨h1, h2⟩ := List.pairwise_cons.mp h
    unfold insS
    by_cases q1 : sLt x y
    · rw [if_pos q1]
      refine List.pairwise_cons.mpr ⟨fun b hb => ?_, h⟩
      rcases List.mem_cons.mp hb with rfl | hb
      · exact q1
      · exact sLt_trans q1 (h1 b hb)
    · rw [if_neg q1]
      by_cases q2 : x = y
      · rw [if_pos q2]; exact h
      · rw [if_neg q2]
        refine List.pairwise_cons.mpr ⟨fun b hb => ?_, rise_insS h2⟩
        rcases mem_insS.mp hb with rfl | hb
        · rcases sLt_tri b y with z | z | z
          · exact absurd z q1
          · exact absurd z q2
          · exact z
        · exact h1 b hb
theorem len_insS {x : Str} : ∀ {l : List Str}, (insS x l).length ≤ l.length + 1
  | [] => by simp [insS]
  | y :: l => by
    unfold insS
    split
    · simp
    · split
      · simp
      · have := len_insS (x := x) (l := l); simp only [List.length_cons]; omega
theorem rise_riseF : ∀ l : List Str, Rise (riseF l)
  | [] => .nil
  | x :: l => rise_insS (rise_riseF l)
theorem mem_riseF {s : Str} : ∀ {l : List Str}, s ∈ riseF l ↔ s ∈ l
  | [] => Iff.rfl
  | x :: l => by
    show s ∈ insS x (riseF l) ↔ _
    rw [mem_insS, mem_riseF, List.mem_cons]
theorem len_riseF : ∀ l : List Str, (riseF l).length ≤ l.length
  | [] => Nat.le_refl _
  | x :: l => by
    have h1 := len_insS (x := x) (l := riseF l)
    have h2 := len_riseF l
    show (insS x (riseF l)).length ≤ _
    simp only [List.length_cons]; omega
theorem riseF_eq {a b : List Str} (h : Rise a) (m : ∀ s, s ∈ a ↔ s ∈ b) : a = riseF b := rise_unique h (rise_riseF b) fun s => by rw [m, mem_riseF]
theorem riseF_id {a : List Str} (h : Rise a) : riseF a = a := (riseF_eq h fun _ => Iff.rfl).symm
/-! ### meanings -/
def kept (xs gs : List Str) : List Str := xs.filter fun s => decide (s ∉ gs)
theorem mem_kept {xs gs : List Str} {s : Str} (h : s ∈ kept xs gs) : s ∈ xs := (List.mem_filter.mp h).1
theorem len_kept (xs gs : List Str) : (kept xs gs).length ≤ xs.length := List.length_filter_le ..
def optT : Option (List Str) → PyData
  | none => .none
  | some l => .tuple (txs l)
inductive Mng where
  | c (v : Option (List Str)) (b : Bool)
  | a (bf dr bh : List Str) (df : Option (List Str)) (b : Bool)
def Mng.d : Mng → PyData
  | .c v b => .tuple [.str "const", optT v, .bool b]
  | .a bf dr bh df b => .tuple [.str "around", .tuple (txs bf), .tuple (txs dr), .tuple (txs bh), optT df, .bool b]
def Mng.locked : Mng → Bool
  | .c _ b => b
  | .a _ _ _ _ b => b
def Mng.nothing : Mng := .a [] [] [] none false
def Mng.single (w : Str) (xs : List Str) : Mng :=
  if w = "set" then .c (some xs) false else if w = "unset" then .c none false else if w = "append" then .a [] [] xs (some []) false else if w = "prepend" then .a xs [] [] (some []) false
  else if w = "drop" then .a [] (riseF xs) [] none false else if w = "default" then .a [] [] [] (some xs) false else .a [] [] [] none true
def Mng.after (f s : Mng) : Mng :=
  if f.locked then f else match s with
  | .c v b => .c v b
  | .a bf dr bh df b => match f with
    | .c none _ => .c (df.map fun d => bf ++ d ++ bh) b
    | .c (some v) _ => .c (some (bf ++ kept v dr ++ bh)) b
    | .a bf1 dr1 bh1 df1 _ => .a (bf ++ kept bf1 dr) (riseF (dr1 ++ dr)) (kept bh1 dr ++ bh) (match df1 with
      | none => df
      | some d => some (kept d dr)) b
def optL : Option (List Str) → List Str
  | none => []
  | some l => l
def Mng.items : Mng → List Str
  | .c v _ => optL v
  | .a bf dr bh df _ => bf ++ (dr ++ (bh ++ optL df))
/-- of items, with its dropped ones rising, with no words around a value that it does not know -/
def Mng.fit : Mng → Prop
  | .c _ _ => True
  | .a bf dr bh df _ => Rise dr ∧ (df = none → bf = [] ∧ bh = [])
structure Mng.Ok (n : Nat) (m : Mng) : Prop where
  its : ∀ s ∈ m.items, isIt s
  sz : m.items.length ≤ n
  fit : m.fit
theorem Mng.Ok.mono {n k : Nat} {m : Mng} (h : m.Ok n) (hk : n ≤ k) : m.Ok k := ⟨h.its, Nat.le_trans h.sz hk, h.fit⟩
theorem Mng.ok_nothing : Mng.nothing.Ok 0 := ⟨by simp [Mng.nothing, Mng.items, optL], by simp [Mng.nothing, Mng.items, optL], .nil, fun _ => ⟨rfl, rfl⟩⟩
theorem Mng.ok_single (w : Str) {xs : List Str} (h : ∀ s ∈ xs, isIt s) : (Mng.single w xs).Ok xs.length := by
  unfold Mng.single
  have hr : ∀ s ∈ riseF xs, isIt s := fun s hs => h s (mem_riseF.mp hs)
  split
  · exact ⟨h, Nat.le_refl _, trivial⟩
  split
  · exact ⟨by simp [Mng.items, optL], by simp [Mng.items, optL], trivial⟩
  split
  · exact ⟨by simpa [Mng.items, optL] using h, by simp [Mng.items, optL], .nil, fun z => by cases z⟩
  split
  · exact ⟨by simpa [Mng.items, optL] using h, by simp [Mng.items, optL], .nil, fun z => by cases z⟩
  split
  · exact ⟨by simpa [Mng.items, optL] using hr, by simpa [Mng.items, optL] using len_riseF xs, rise_riseF xs, fun _ => ⟨rfl, rfl⟩⟩
  split
  · exact ⟨by simpa [Mng.items, optL] using h, by simp [Mng.items, optL], .nil, fun z => by cases z⟩
  · exact ⟨by simp [Mng.items, optL], by simp [Mng.items, optL], .nil, fun _ => ⟨rfl, rfl⟩⟩
theorem Mng.ok_after {a b : Nat} {f s : Mng} (hf : f.Ok a) (hs : s.Ok b) : (f.after s).Ok (a + b) := by
  unfold Mng.after
  split
  · exact hf.mono (by omega)
  obtain ⟨s1, s2, s3⟩ := hs
  obtain ⟨f1, f2, f3⟩ := hf
  cases s with
  | c v bl => exact ⟨s1, Nat.le_trans s2 (Nat.le_add_left ..), s3⟩
  | a bf dr bh df bl =>
    simp only [Mng.items, List.mem_append, List.length_append] at s1 s2
    cases f with
    | c v fb =>
      cases v with
      | none =>
        cases df with
        | none => exact ⟨by simp [Mng.items, optL], by simp [Mng.items, optL], trivial⟩
        | some d =>
          refine ⟨fun t ht => s1 t ?_, ?_, trivial⟩
          · simp only [Mng.items, optL, Option.map_some, List.mem_append] at ht ⊢
            rcases ht with (h | h) | h
            · exact .inl h
            · exact .inr (.inr (.inr h))
            · exact .inr (.inr (.inl h))
          · simp only [Mng.items, optL, Option.map_some, List.length_append] at s2 ⊢
            omega
      | some v =>
        simp only [Mng.items, optL] at f1 f2
        refine ⟨fun t ht => ?_, ?_, trivial⟩
        · simp only [Mng.items, optL, List.mem_append] at ht
          rcases ht with (h | h) | h
          · exact s1 t (.inl h)
          · exact f1 t (mem_kept h)
          · exact s1 t (.inr (.inr (.inl h)))
        · have := len_kept v dr
          simp only [Mng.items, optL, List.length_append]
          omega
    | a bf1 dr1 bh1 df1 fb =>
      simp only [Mng.items, List.mem_append, List.length_append] at f1 f2
      have l1 := len_kept bf1 dr
      have l2 := len_kept bh1 dr
      have l3 := len_riseF (dr1 ++ dr)
      simp only [List.length_append] at l3
      have common : ∀ t, t ∈ bf ++ kept bf1 dr ∨ t ∈ riseF (dr1 ++ dr) ∨ t ∈ kept bh1 dr ++ bh → isIt t := fun t ht => by
        simp only [List.mem_append, mem_riseF] at ht
        rcases ht with (h | h) | (h | h) | (h | h)
        · exact s1 t (.inl h)
        · exact f1 t (.inl (mem_kept h))
        · exact f1 t (.inr (.inl h))
        · exact s1 t (.inr (.inl h))
        · exact f1 t (.inr (.inr (.inl (mem_kept h))))
        · exact s1 t (.inr (.inr (.inl h)))
      cases df1 with
      | none =>
        refine ⟨fun t ht => ?_, ?_, rise_riseF _, fun z => ?_⟩
        · simp only [Mng.items, List.mem_append] at ht
          rcases ht with h | h | h | h
          · exact common t (.inl (List.mem_append.mpr h))
          · exact common t (.inr (.inl h))
          · exact common t (.inr (.inr (List.mem_append.mpr h)))
          · exact s1 t (.inr (.inr (.inr h)))
        · simp only [Mng.items, List.length_append]
          omega
        · obtain ⟨h1, h2⟩ := s3.2 z
          obtain ⟨h3, h4⟩ := f3.2 rfl
          rw [h1, h2, h3, h4]
          exact ⟨rfl, rfl⟩
      | some d =>
        have l4 := len_kept d dr
        simp only [optL] at f1 f2
        refine ⟨fun t ht => ?_, ?_, rise_riseF _, fun z => by cases z⟩
        · simp only [Mng.items, optL, List.mem_append] at ht
          rcases ht with h | h | h | h
          · exact common t (.inl (List.mem_append.mpr h))
          · exact common t (.inr (.inl h))
          · exact common t (.inr (.inr (List.mem_append.mpr h)))
          · exact f1 t (.inr (.inr (.inr (mem_kept h))))
        · simp only [Mng.items, optL, List.length_append]
          omega
end DL
namespace DL
open PySem L2
def strsOf : PyData → List Str
  | .tuple l => l.filterMap fun x => match x with
    | .str s => some s
    | _ => none
  | _ => []
end DL

namespace DL
open PySem L2
/-! ### defs by facts -/
abbrev Fn (K : PySem.W.Frag) (x : Str) (st : Stmt) (f : Addr) (fd : FuncData) : Prop := FunD K x x (defArgs st) (defBody st) (defScope st) [] [] f fd
section
variable {P : Program} {w : World} {K : PySem.W.Frag} {mg : Str → Option Value} {base : Heap}
theorem fn_dlD {x : Str} {st : Stmt} {f : Addr} {fd : FuncData} {N ps : List Str} {k : Nat} {fs : FS} {u : WS} (F : Fn K x st f fd) (S : FnScope N ps (defScope st)) (len : ∀ as Q X, fs as Q X → as.length = ps.length)
    (der : ∀ (cdv : Value) (A : Around) (outer : List Env) (s : Shared) (H : Hp) (E : XK), Room k (A.deeper (PyProof.Rows.envOfC x (defScope st) s.heap.objs.size f cdv)) →
      DSs (cxOf (L2.CX P w) P w K mg base N x (defScope st) f cdv A outer s H E) (WD E) (defBody st) u)
    (wp : ∀ as Q X, fs as Q X → u (as ++ List.replicate (N.length - ps.length) Sl.no) (endP ps.length Q X)) : FnOk P w K mg base (L2.CX P w) (k + 1) f fd ps (spOf K mg fs) := by
  refine F.ok S (fun vs H Q E h => ?_) (fun cdv A outer s H vs Q E hr h => ⟨_, (der cdv A outer s H E hr).pss, ?_⟩)
  · obtain ⟨pin, F, as, Q', X', E1, _, h1, _⟩ := h
    have := E1.len
    rw [List.length_map] at this
    rw [this]
    exact len _ _ _ h1
  · exact fn_end len wp h
theorem ca_mk {x : Str} {st : Stmt} {f : Addr} {fd : FuncData} {N ps : List Str} {k : Nat} {fs : FS} {u : WS} (F : Fn K x st f fd) (S : FnScope N ps (defScope st)) (len : ∀ as Q X, fs as Q X → as.length = ps.length)
    (wp : ∀ as Q X, fs as Q X → u (as ++ List.replicate (N.length - ps.length) Sl.no) (endP ps.length Q X)) (hm : mg x = some (.ref f)) (b : Binds K fd ps [])
    (der : ∀ (cdv : Value) (A : Around) (outer : List Env) (s : Shared) (H : Hp) (E : XK), Room k (A.deeper (PyProof.Rows.envOfC x (defScope st) s.heap.objs.size f cdv)) →
      DSs (cxOf (L2.CX P w) P w K mg base N x (defScope st) f cdv A outer s H E) (WD E) (defBody st) u) : Ca P w K mg base x (k + 1) fs :=
  ⟨f, fd, ps, fn_dlD F S len der wp, hm, F.kp, b⟩
end
/-! ### the module's constants -/
def vV : Value → V
  | .bool b => .bl b
  | .int i _ => .int i
  | .str x _ => .str x
  | .ref a => .ref a
  | _ => .non
mutual
def cvB (K : PySem.W.Frag) (u : Value) : PyData → Bool
  | .none => decide (u = .none)
  | .bool b => decide (u = .bool b)
  | .int i => He.relB (.int i) u
  | .str x => He.relB (.str x) u
  | .list l => match u with
    | .ref a => (match K.lookup a with
      | some ⟨.type c, none, .seq its _, _⟩ => decide (c = "list") && (decide (its.size ≤ sizeLine) && cvsB K its.toList l)
      | _ => false)
    | _ => false
  | .tuple l => match u with
    | .ref a => (match K.lookup a with
      | some ⟨.type c, _, .seq its _, _⟩ => decide (c = "tuple") && (decide (its.size ≤ sizeLine) && cvsB K its.toList l)
      | _ => false)
    | _ => false
  | .dict _ => false
def cvsB (K : PySem.W.Frag) (us : List Value) : List PyData → Bool
  | [] => us.isEmpty
  | d :: ds => match us with
    | u :: us => cvB K u d && cvsB K us ds
    | [] => false
end
mutual
theorem cvB_ok {K : PySem.W.Frag} : ∀ (d : PyData) {u : Value}, cvB K u d = true → RelV (vV u) u ∧ ∀ H, Rep K H (vV u) d
  | .none, u, h => by
    simp only [cvB, decide_eq_true_eq] at h
    subst h
    exact ⟨rfl, fun _ => rfl⟩
  | .bool b, u, h => by
    simp only [cvB, decide_eq_true_eq] at h
    subst h
    exact ⟨rfl, fun _ => rfl⟩
  | .int i, u, h => by
    simp only [cvB] at h
    obtain ⟨t, e⟩ := He.relB_ok h
    subst e
    exact ⟨⟨t, rfl⟩, fun _ => rfl⟩
  | .str i, u, h => by
    simp only [cvB] at h
    obtain ⟨t, e⟩ := He.relB_ok h
    subst e
    exact ⟨⟨t, rfl⟩, fun _ => rfl⟩
  | .list l, u, h => by
    simp only [cvB] at h
    split at h
    · rename_i a
      split at h
      · rename_i c its sl n q
        simp only [Bool.and_eq_true, decide_eq_true_eq] at h
        obtain ⟨h1, h2, h3⟩ := h
        obtain ⟨p1, p2⟩ := cvsB_ok l h3
        exact ⟨rfl, fun H => ⟨a, its.toList.map vV, rfl, .inr ⟨_, its, _, q, congrArg Value.type h1, rfl, rfl, h2, p1⟩, p2 H⟩⟩
      · cases h
    · cases h
  | .tuple l, u, h => by
    simp only [cvB] at h
    split at h
    · rename_i a
      split at h
      · rename_i c od its n sl q
        simp only [Bool.and_eq_true, decide_eq_true_eq] at h
        obtain ⟨h1, h2, h3⟩ := h
        obtain ⟨p1, p2⟩ := cvsB_ok l h3
        exact ⟨rfl, fun H => ⟨a, its.toList.map vV, rfl, .inr ⟨_, its, _, q, congrArg Value.type h1, rfl, h2, p1⟩, p2 H⟩⟩
      · cases h
    · cases h
  | .dict l, u, h => by simp [cvB] at h
theorem cvsB_ok {K : PySem.W.Frag} : ∀ (ds : List PyData) {us : List Value}, cvsB K us ds = true → Vals (us.map vV) us ∧ ∀ H, Reps K H (us.map vV) ds
  | [], us, h => by
    simp only [cvsB, List.isEmpty_iff] at h
    subst h
    exact ⟨.nil, fun _ => rfl⟩
  | d :: ds, us, h => by
    simp only [cvsB] at h
    split at h
    · rename_i u us
      simp only [Bool.and_eq_true] at h
      obtain ⟨a1, a2⟩ := cvB_ok d h.1
      obtain ⟨b1, b2⟩ := cvsB_ok ds h.2
      exact ⟨.cons a1 b1, fun H => ⟨_, _, rfl, a2 H, b2 H⟩⟩
    · cases h
end
def gcB (K : PySem.W.Frag) (x : Str) (d : PyData) : Bool := match PySem.W.nsIn K mainGlobals x with
  | some (some u) => cvB K u d
  | _ => false
theorem gcB_ok {K : PySem.W.Frag} {h : Heap} {mg : Str → Option Value} (X : K.In h) (G : h.Ns mainGlobals mg) {x : Str} {d : PyData} (c : gcB K x d = true) : Gc K mg x d := by
  unfold gcB at c
  split at c
  · rename_i u q
    obtain ⟨a1, a2⟩ := cvB_ok d c
    exact ⟨_, u, PySem.W.mg_of X G q, a1, a2⟩
  · cases c
/-! ### the head's facts, constants with them -/
def obsC (cs : List (Str × PyData)) (fa : List He.Fa) (fn : List He.DefD) (K : PySem.W.Frag) : He.AlD := ((cs.all fun c => gcB K c.1 c.2) && (He.obsD fa fn K).1, (He.obsD fa fn K).2)
def SaysC (cs : List (Str × PyData)) (fa : List He.Fa) (fn : List He.DefD) (K : PySem.W.Frag) : Prop := obsC cs fa fn K = He.valD fn
/-- the objects that the module's names reach, from the top down -/
def refsF (o : Obj) : List Addr := match o.data with
  | .seq its _ => its.toList.flatMap He.refV
  | .dict es _ => es.toList.flatMap fun e => He.refV e.val
  | .func fd => He.refV fd.code ++ He.refV fd.defaults
  | .cls cd => [cd.ns]
  | _ => []
def asF (g : Addr → Option Obj) : Nat → Addr → List Addr
  | 0, a => [a]
  | n + 1, a => a :: (match g a with
    | some o => (refsF o).flatMap (asF g n)
    | none => [])
def obsCG (n : Nat) (cs : List (Str × PyData)) (fa : List He.Fa) (fn : List He.DefD) (g : Addr → Option Obj) : He.AlD := obsC cs fa fn (He.frG g (asF g n mainGlobals))
def hookC (n : Nat) (cs : List (Str × PyData)) (fa : List He.Fa) (fn : List He.DefD) : PySem.W.Hook where
  α := He.AlD
  obs := fun s => obsCG n cs fa fn s.heap.get?
  val := fun _ => He.valD fn
  says := fun _ h => ∃ K : PySem.W.Frag, K.In h ∧ SaysC cs fa fn K
  of := fun _ _ e => ⟨_, He.frG_in, e⟩
  keeps := fun _ _ _ ⟨K, hK, c⟩ k => ⟨K, PySem.W.Frag.In.keeps hK k, c⟩
theorem obsCG_eq {n : Nat} {cs : List (Str × PyData)} {fa : List He.Fa} {fn : List He.DefD} {g : Addr → Option Obj} {s : Shared} (h : ∀ a, g a = s.heap.get? a) : obsCG n cs fa fn g = (hookC n cs fa fn).obs s := by
  have e : g = s.heap.get? := funext h
  rw [e] <;> rfl
section
variable {cs : List (Str × PyData)} {fa : List He.Fa} {fn : List He.DefD} {K : PySem.W.Frag}
theorem SaysC.d (c : SaysC cs fa fn K) : He.SaysD fa fn K := by
  have h1 := congrArg (fun z : He.AlD => z.1) c
  have h2 := congrArg (fun z : He.AlD => z.2) c
  have h3 : ((cs.all fun c => gcB K c.1 c.2) && (He.obsD fa fn K).1) = true := h1
  rw [Bool.and_eq_true] at h3
  exact Prod.ext h3.2 h2
theorem SaysC.cst (c : SaysC cs fa fn K) (i : Nat) {x : Str} {d : PyData} (h : cs[i]? = some (x, d) := by rfl) : gcB K x d = true := by
  have h1 := congrArg (fun z : He.AlD => z.1) c
  have h3 : ((cs.all fun c => gcB K c.1 c.2) && (He.obsD fa fn K).1) = true := h1
  rw [Bool.and_eq_true] at h3
  exact List.all_eq_true.mp h3.1 (x, d) (List.mem_of_getElem? h)
end
/-! ### the law's end -/
theorem walk_ofC {l : PySem.W.OpenLaw} {n k : Nat} {q : Program} {loose : List Str} {XP : (Str → Option Value) → Heap → Prop} {YP : World → Heap → Prop} {d : DefRec} {CX : World → CXT} {x : Str}
    (hn : l.most = some n) (hn2 : n ≤ sizeLine) (hdf : d.params.defaults = []) (hr : Room k callerA)
    (F : ∀ (w : World) (mg : Str → Option Value) (fa : Addr) (h : Heap), YP w h → h.Ns mainGlobals mg → mg d.name = some (.ref fa) →
      ∃ (K : PySem.W.Frag) (fd : FuncData) (sp : Sp), K.In h ∧ (∀ (s : Shared) (u : Value), BindsTo s fd ⟨[u], []⟩ [(x, u)]) ∧
        (∀ (H : Hp) (a : Addr) (ns : List Int), ns.length ≤ n → Only H → SqL K H a (ns.map V.int) → sp [.ref a] H (fun v _ => v = .bl true) fun _ _ _ => False) ∧
        ∀ base : Heap, K.In base → base.Ns mainGlobals mg → FnOk l.prog w K mg base (CX w) k fa fd [x] sp)
    (hCX : ∀ (w : World) (H : Hp) (s : Shared) (e : Value) (s' : Shared), CX w [] H s (fun _ _ _ => False) e s' → False) :
    PySem.W.WalkO q loose XP YP l.row.toRowW d [] (fun f vs => PySem.call f vs) := by
  refine Att.attach_call hn hdf fun w s₀ s₁ mg mb fa o pm cd doc a vs ns G Y ho hd hcd hmg hobj hints hlen hg => ?_
  obtain ⟨K, fd, sp, KX, hb, hsp, hF⟩ := F w mg fa _ Y G.T.g hmg
  exact law_call KX G.T.g G.T.b G.T.builtins G.T.nolimit hg hobj hints (Nat.le_trans hlen hn2) hr hF hb (fun H hO hS => hsp H a ns hlen hO hS) fun H e s' => hCX w H s₁ e s'
theorem cx_false {P : Program} (w : World) (H : Hp) (s : Shared) (e : Value) (s' : Shared) (h : L2.CX P w [] H s (fun _ _ _ => False) e s') : False := by
  obtain ⟨_, _, _, _, _, _, _, _, _, _, _, _, z⟩ := h
  exact z
theorem reps_ints {K : PySem.W.Frag} {H : Hp} : ∀ ns : List Int, Reps K H (ns.map V.int) (ns.map PyData.int)
  | [] => rfl
  | n :: ns => ⟨_, _, rfl, rfl, reps_ints ns⟩
/-- a law's promise from its def's spec -/
theorem law_sp {K : PySem.W.Frag} {mg : Str → Option Value} {fs : FS} {H : Hp} {a : Addr} {ns : List Int} (hS : SqL K H a (ns.map V.int))
    (h : fs [.v (.list (ns.map .int))] (fun r _ => r = .d (.bool true)) (fun _ => False)) : spOf K mg fs [.ref a] H (fun v _ => v = .bl true) fun _ _ _ => False := by
  refine ⟨fun _ => none, H, [.v (.list (ns.map .int))], _, _, ⟨Same.id H, rfl, fun i d e => ?_, fun i s l e hm => ?_, fun i p e => (by cases e), fun i l e => ?_, fun i j s t l m p e1 e2 m1 m2 => ?_, fun a o e _ => e, fun _ _ _ => rfl⟩, fun s hs l => ?_, h, ?_, ?_⟩
  · cases i with
    | zero => cases e; exact ⟨_, rfl, a, _, rfl, hS, reps_ints ns⟩
    | succ i => cases e
  · cases i with
    | zero => cases e; cases hm
    | succ i => cases e
  · cases i with
    | zero => cases e
    | succ i => cases e
  · cases i with
    | zero => cases e1; cases m1
    | succ i => cases e1
  · simp only [List.mem_singleton] at hs
    subst hs
    exact fun z => by cases z
  · rintro v r H' F' cs _ _ _ _ _ rr rfl
    exact rr
  · exact fun _ _ _ _ _ z => z.elim
end DL
namespace DL
open PySem L2
theorem takes0 {X : Cx} : Takes X WF := fun u s' ⟨_, _, _, _, _, _, _, _, _, _, _, _, _, _, _, _, z⟩ => z.elim
end DL

/-! own errors over Exception with an __init__ that stores its arguments -/
namespace DX
open PySem PySem.W PySem.Calls PyProof.Rows PySem.HandSPX
abbrev exTl : List Value := [.type "Exception", .type "BaseException", .type "object"]
/-- self.f = f, for the fields -/
def stB : List Str → List (Pos × Pos × Pos × Pos) → List Stmt
  | f :: fs, (q1, q2, q3, q4) :: qs => .Assign [.Attribute (.Name "self" q1) f q2] (.Name f q3) q4 :: stB fs qs
  | _, _ => []
/-- what the top's text and heap say of the error class at C -/
structure ErrT (K : Frag) (C fI : Addr) (fs : List Str) : Prop where
  cls : excInitIn K C exTl "Exception.__new__" = true
  over : excOver K C exTl = true
  hd : hasDictIn K C = true
  sa : findIn K (.ref C) "__setattr__" = some (some (.builtin "object.__setattr__"))
  ga : findIn K (.ref C) "__getattribute__" = some (some (.builtin "BaseException.__getattribute__"))
  gg : findIn K (.ref C) "__getattr__" = some none
  no : ∀ f ∈ fs, findIn K (.ref C) f = some none
  iC : findIn K (.ref C) "__init__" = some (some (.ref fI))
  tC : typeIn K (.ref fI) = some (.type "function")
  kC : keepIn K (.ref C) = true
  exC : subIn K (.ref C) (.type "BaseException") = some true
  tyC : typeIn K (.ref C) = some (.type "type")
def errB (K : Frag) (C fI : Addr) (fs : List Str) : Bool :=
  excInitIn K C exTl "Exception.__new__" && (excOver K C exTl && (hasDictIn K C && (decide (findIn K (.ref C) "__setattr__" = some (some (.builtin "object.__setattr__"))) &&
  (decide (findIn K (.ref C) "__getattribute__" = some (some (.builtin "BaseException.__getattribute__"))) && (decide (findIn K (.ref C) "__getattr__" = some none) && ((fs.all fun f => decide (findIn K (.ref C) f = some none)) &&
  (decide (findIn K (.ref C) "__init__" = some (some (.ref fI))) && (decide (typeIn K (.ref fI) = some (.type "function")) && (keepIn K (.ref C) && (decide (subIn K (.ref C) (.type "BaseException") = some true) && decide (typeIn K (.ref C) = some (.type "type"))))))))))))
theorem errB_ok {K : Frag} {C fI : Addr} {fs : List Str} (h : errB K C fI fs = true) : ErrT K C fI fs := by
  unfold errB at h
  simp only [Bool.and_eq_true, decide_eq_true_eq, List.all_eq_true] at h
  obtain ⟨h1, h2, h3, h4, h5, h6, h7, h8, h9, h10, h11, h12⟩ := h
  exact ⟨h1, h2, h3, h4, h5, h6, h7, h8, h9, h10, h11, h12⟩
theorem taker {K : Frag} {C fI : Addr} {fs : List Str} (T : ErrT K C fI fs) {f : Str} (hf : f ∈ fs) : takerIn K C f = some none := by
  unfold takerIn
  rw [T.no f hf]
  rfl
section
variable {prog : Program} {w : World} {A : Around} {E : Value → Shared → Prop} {R : Result → Shared → Prop} {s : Shared} {K : Frag} {C fI : Addr} {fs : List Str}
open Builtin Builtin.ObjectAttr
/-- the first field -/
theorem put0 (T : ErrT K C fI fs) {f : Str} (hf : f ∈ fs) {x : Addr} {fv : Array Value} {v : Value} {Q : Unit → Shared → Prop} (X : K.In s.heap) (hx : s.heap.get? x = some { cls := .ref C, data := .fields fv })
    (hq : ∀ h' tk' dx, (∀ b o, b ≠ x → s.heap.get? b = some o → h'.get? b = some o) → s.heap.objs.size ≤ dx → dx ≠ x → h'.get? x = some { cls := .ref C, dict := some dx, data := .fields fv } →
      h'.Ns1 dx (fun y => if y = f then some v else none) → Q () { s with heap := h', toks := tk' }) :
    wpAny (model prog w) A (setAttr (.ref x) f v) Q E s := by
  obtain ⟨hp, g, d, t, os⟩ := s
  have I : InstAt hp x { cls := .ref C, data := .fields fv } C none := ⟨hx, rfl, rfl, trivial⟩
  have hxs : x ≠ hp.objs.size := Nat.ne_of_lt (Heap.lt_size hx)
  refine set_plain X I T.sa ?_
  refine osa_openX (s := ⟨hp, g, d, t + 1, os⟩) (od := none) F.store_Exception X I T.over (taker T hf) fun b => ?_
  obtain ⟨cd, hcd, hh⟩ := any_some T.hd
  have hcls : Looks (model prog w) hp (classData C) cd := looks_clsIn X hcd
  obtain ⟨nm, bs, mro, ns, qn, hd, sn, sb, ab, col, del⟩ := cd
  dsimp only at hh
  subst hh
  show wpAny _ _ (storeInOwnDict (.ref x) (.ref C) (.str f t) f v b) _ _ _
  unfold storeInOwnDict ownDictForStores
  repeat (first | with_reducible refine store_in_new ?_ ?_ | with_reducible refine wpAny_loadPart_at hx ?_ | with_reducible refine hcls.at ?_ | wp_step)
  · exact ⟨_, #[], _, (Heap.get?_update_ne _ _ _ _ hxs.symm).trans (Heap.get?_push_at rfl rfl), rfl, fun e he => absurd he (by simp), fun _ => rfl⟩
  · intro h' tk' hn' hs
    have hx₁ : (hp.push { cls := .type "dict", data := .dict #[] }).get? x = some { cls := .ref C, data := .fields fv } := Heap.get?_push_of_some _ hx
    refine hq h' tk' hp.objs.size (fun b o hb ho => ?_) (Nat.le_refl _) hxs.symm ?_ hn'
    · exact (hs.2 b (Nat.ne_of_lt (Heap.lt_size ho))).trans ((Heap.get?_update_ne _ _ _ _ hb).trans (Heap.get?_push_of_some _ ho))
    · exact (hs.2 x hxs).trans (Heap.get?_update_self _ hx₁ rfl)
/-- a further field -/
theorem putD (T : ErrT K C fI fs) {f : Str} (hf : f ∈ fs) {x dx : Addr} {fv : Array Value} {v : Value} {m0 : Str → Option Value} {nl : List Str} {Q : Unit → Shared → Prop} (X : K.In s.heap) (hx : s.heap.get? x = some { cls := .ref C, dict := some dx, data := .fields fv })
    (hns : s.heap.Ns1 dx m0) (hw : Within m0 nl) (hz : nl.length ≤ 1000)
    (hq : ∀ h' tk', (∀ b o, b ≠ dx → s.heap.get? b = some o → h'.get? b = some o) → h'.Ns1 dx (fun y => if y = f then some v else m0 y) → Q () { s with heap := h', toks := tk' }) :
    wpAny (model prog w) A (setAttr (.ref x) f v) Q E s := by
  obtain ⟨hp, g, d, t, os⟩ := s
  obtain ⟨oD, esD, epD, hoD, hdD, _⟩ := hns.count hw
  have I : InstAt hp x { cls := .ref C, dict := some dx, data := .fields fv } C (some oD) := ⟨hx, rfl, rfl, hoD⟩
  refine set_plain X I T.sa ?_
  refine osa_openX (s := ⟨hp, g, d, t + 1, os⟩) (od := some oD) F.store_Exception X I T.over (taker T hf) fun b => ?_
  obtain ⟨cd, hcd, hh⟩ := any_some T.hd
  have hcls : Looks (model prog w) hp (classData C) cd := looks_clsIn X hcd
  obtain ⟨nm, bs, mro, ns, qn, hd, sn, sb, ab, col, del⟩ := cd
  dsimp only at hh
  subst hh
  show wpAny _ _ (storeInOwnDict (.ref x) (.ref C) (.str f t) f v b) _ _ _
  unfold storeInOwnDict ownDictForStores
  repeat (first | with_reducible refine OEX.store_in_old hns hw hz ?_ | with_reducible refine wpAny_loadPart_at hx ?_ | with_reducible refine hcls.at ?_ | wp_step)
  intro h' tk' hn' hs
  exact hq h' tk' (fun b o hb ho => (hs.2 b hb).trans ho) hn'
end
end DX

/-! own errors: __init__ run, an error made, raise -/
namespace DX
open PySem PySem.W PySem.Calls PyProof.Rows PySem.HandSPX
def mapOf : List (Str × Value) → Str → Option Value
  | [] => fun _ => none
  | (f, v) :: r => fun y => if y = f then some v else mapOf r y
/-- what __init__ leaves of a fresh error at x -/
structure InitE (h h' : Heap) (x C dx t1 : Addr) (m : Str → Option Value) : Prop where
  keep : ∀ b o, b ≠ x → h.get? b = some o → h'.get? b = some o
  obj : h'.get? x = some { cls := .ref C, dict := some dx, data := .fields #[.ref t1, .none, .none, .none, .bool false, .none] }
  dbig : h.objs.size ≤ dx
  dne : dx ≠ x
  ns : h'.Ns1 dx m
structure MadeE (h h' : Heap) (e C d : Addr) (m : Str → Option Value) : Prop where
  keep : ∀ b o, h.get? b = some o → h'.get? b = some o
  new : h.objs.size ≤ e
  obj : ∃ oe vs, h'.get? e = some oe ∧ oe.cls = .ref C ∧ oe.dict = some d ∧ oe.data = .fields vs ∧ vs[1]? = some .none
  dbig : h.objs.size ≤ d
  dne : d ≠ e
  ns : h'.Ns1 d m
theorem ldL {M : Model} {s : Shared} {name : Str} {scope : Scope} {L a : Addr} {cd : Value} {m : Str → Option Value} {x : Str} {pos : Pos} {v : Value} {Q : Value → Shared → Prop} {A : Around} {E : Value → Shared → Prop} (hn : s.heap.Ns L m) (hv : m x = some v) (h : Q v s)
    (hk : scope.kind = .function := by rfl) (hl : (envOfC name scope L a cd).kindOf x = some .local := by rfl) (hd : (x == ("__debug__" : Str)) = false := by decide) :
    wpAny M A (eval (.Name x pos) (envOfC name scope L a cd)) Q E s := wpAny_Name (wpAny_loadName_local hk hl hn hv h) hd
def st1 (f : Str) (q1 q2 q3 q4 : Pos) : Stmt := .Assign [.Attribute (.Name "self" q1) f q2] (.Name f q3) q4
section
variable {prog : Program} {w : World} {A : Around} {E : Value → Shared → Prop} {R : Result → Shared → Prop} {s : Shared} {K : Frag} {C fI : Addr} {fs : List Str}
def ar_at (p0 p1 : Pos) : Arguments := { posonlyargs := [], args := [{ arg := "self", annotation := none, pos := p0 }, { arg := "at", annotation := none, pos := p1 }], vararg := none, kwonlyargs := [], kw_defaults := [], kwarg := none, defaults := [] }
def bo_at (q00 q01 q02 q03 : Pos) : List Stmt := [st1 "at" q00 q01 q02 q03]
def sc_at : Scope := { kind := .function, names := [(PySem.Str.ofString "self", .local), (PySem.Str.ofString "at", .local)], isGenerator := false, isCoroutine := false, more := [] }
theorem init_at (T : ErrT K C fI fs) (h0 : (PySem.Str.ofString "at") ∈ fs) {qual : Str} {p0 p1 q00 q01 q02 q03 : Pos} {fd : FuncData} (Fu : L2.FunD K "__init__" qual (ar_at p0 p1) (bo_at q00 q01 q02 q03) sc_at [] [] fI fd) {x t0 : Addr} {v0 : Value} (X : K.In s.heap) (hlim : s.heap.NoLimit) (hx : s.heap.get? x = some (excO C t0)) (hnx : K.lookup x = none)
    (hroom : A.depth < recursionLimit) (hq : ∀ h' tk dx, InitE s.heap h' x C dx t0 (mapOf [("at", v0)]) → R (.ok (.ret .none)) { s with heap := h', toks := tk }) :
    codeAny (model prog w) A (.call (.ref fI) ⟨[.ref x, v0], []⟩) R s := by
  have hb := Fu.bindsA (ps := ["self", "at"]) (fun _ _ _ _ _ _ us hl => match us, hl with | [_, _], _ => rfl) s [.ref x, v0] rfl
  obtain ⟨oc, od, dV, kV, doc, pm, an, cdv, ct, osl, rfl, ho, hcd, _, _⟩ := Fu.ex
  refine Att.call_fn (binds := [("self", .ref x), ("at", v0)]) X hlim ho hcd hroom hb (by first | rfl | decide | with_unfolding_all rfl) (fun s₁ IC => ?_) rfl rfl rfl
  obtain ⟨h₁, tk₁, rfl⟩ := IC.toInCall.same
  have k : ∀ b o, s.heap.get? b = some o → h₁.get? b = some o := IC.toInCall.keep
  have hn := IC.toInCall.ns
  have hxL : s.heap.objs.size ≠ x := Nat.ne_of_gt (Heap.lt_size hx)
  have X₁ : K.In h₁ := X.keeps k
  have hx₁ := k _ _ hx
  have z : s.heap.objs.size < h₁.objs.size := hn.lt
  show wpAny _ _ (execs _ _) _ _ _
  refine wpAny_execs_cons (plainObj_wpAny_Assign_Attribute ?_)
  refine ldL (v := v0) hn (by first | rfl | with_unfolding_all rfl | kernel_rfl) (ldL (v := .ref x) hn (by first | rfl | with_unfolding_all rfl | kernel_rfl) ?_)
  refine put0 T h0 X₁ hx₁ (fun h₃ tk₃ dx k₃ dn dne hx₃ hn₃ => ?_)
  show wpAny _ _ (execs _ _) _ _ _
  exact wpAny_execs_nil (hq h₃ tk₃ dx ⟨fun b o hb e => k₃ b o hb (k b o e), hx₃, Nat.le_of_lt (Nat.lt_of_lt_of_le z dn), dne, hn₃⟩)
theorem made_at (T : ErrT K C fI fs) (h0 : (PySem.Str.ofString "at") ∈ fs) {qual : Str} {p0 p1 q00 q01 q02 q03 : Pos} {fd : FuncData} (Fu : L2.FunD K "__init__" qual (ar_at p0 p1) (bo_at q00 q01 q02 q03) sc_at [] [] fI fd) {v0 : Value} (X : K.In s.heap) (hlim : s.heap.NoLimit) (hroom : A.depth + 1 < recursionLimit)
    (hq : ∀ h' tk e d, MadeE s.heap h' e C d (mapOf [("at", v0)]) → R (.ok (.ret (.ref e))) { s with heap := h', toks := tk }) :
    codeAny (model prog w) A (.call (.ref C) ⟨[v0], []⟩) R s := by
  obtain ⟨nm, N, q, bs, bm, hdct, sn, sub, ab, col, dd, k0, k1, k2, k3, k5, hC, hT⟩ := excInit_of X T.cls
  obtain ⟨hp, g, dr, tk, os⟩ := s
  have k : ∀ b o, hp.get? b = some o → ((hp.push (kdv_tup [v0])).push (excO C hp.objs.size)).get? b = some o := fun b o e => Heap.get?_push_of_some _ (Heap.get?_push_of_some _ e)
  have hget : ((hp.push (kdv_tup [v0])).push (excO C hp.objs.size)).get? (hp.objs.size + 1) = some (excO C hp.objs.size) := by heap_get
  have hnx : K.lookup (hp.objs.size + 1) = none := by
    cases e : K.lookup (hp.objs.size + 1) with
    | none => rfl
    | some o => exact absurd (Nat.lt_of_succ_lt (Heap.lt_size (show hp.get? (hp.objs.size + 1) = some o from X _ _ e))) (Nat.lt_irrefl _)
  refine call_own F.excBase_Exception hT hC (looks_findIn X T.iC) (fun self => bind_fn X self T.tC) (by show [v0].length ≤ sizeLine; rw [sizeLine_eq]; exact (by decide : 1 ≤ 16777216)) ?_
  refine init_at (s := ⟨(hp.push (kdv_tup [v0])).push (excO C hp.objs.size), g, dr, tk, os⟩) T h0 Fu (X.keeps k) (hlim.keeps k) hget hnx (by show A.depth + 1 < recursionLimit; exact hroom) fun h' tk' dx ⟨k', hx, dn, dne, hns⟩ => ?_
  have old : ∀ b o, hp.get? b = some o → h'.get? b = some o := fun b o e => k' b o (Nat.ne_of_lt (Nat.lt_succ_of_lt (Heap.lt_size e))) (k b o e)
  have z : hp.objs.size + 1 + 1 ≤ dx := by
    first
      | (simpa only [Heap.size_push] using dn)
      | exact dn
  exact ⟨rfl, hq h' tk' (hp.objs.size + 1) dx ⟨old, Nat.le_succ _, ⟨_, _, hx, rfl, rfl, rfl, rfl⟩, Nat.le_trans (Nat.le_trans (Nat.le_succ _) (Nat.le_succ _)) z, dne, hns⟩⟩
def ar_word (p0 p1 : Pos) : Arguments := { posonlyargs := [], args := [{ arg := "self", annotation := none, pos := p0 }, { arg := "word", annotation := none, pos := p1 }], vararg := none, kwonlyargs := [], kw_defaults := [], kwarg := none, defaults := [] }
def bo_word (q00 q01 q02 q03 : Pos) : List Stmt := [st1 "word" q00 q01 q02 q03]
def sc_word : Scope := { kind := .function, names := [(PySem.Str.ofString "self", .local), (PySem.Str.ofString "word", .local)], isGenerator := false, isCoroutine := false, more := [] }
theorem init_word (T : ErrT K C fI fs) (h0 : (PySem.Str.ofString "word") ∈ fs) {qual : Str} {p0 p1 q00 q01 q02 q03 : Pos} {fd : FuncData} (Fu : L2.FunD K "__init__" qual (ar_word p0 p1) (bo_word q00 q01 q02 q03) sc_word [] [] fI fd) {x t0 : Addr} {v0 : Value} (X : K.In s.heap) (hlim : s.heap.NoLimit) (hx : s.heap.get? x = some (excO C t0)) (hnx : K.lookup x = none)
    (hroom : A.depth < recursionLimit) (hq : ∀ h' tk dx, InitE s.heap h' x C dx t0 (mapOf [("word", v0)]) → R (.ok (.ret .none)) { s with heap := h', toks := tk }) :
    codeAny (model prog w) A (.call (.ref fI) ⟨[.ref x, v0], []⟩) R s := by
  have hb := Fu.bindsA (ps := ["self", "word"]) (fun _ _ _ _ _ _ us hl => match us, hl with | [_, _], _ => rfl) s [.ref x, v0] rfl
  obtain ⟨oc, od, dV, kV, doc, pm, an, cdv, ct, osl, rfl, ho, hcd, _, _⟩ := Fu.ex
  refine Att.call_fn (binds := [("self", .ref x), ("word", v0)]) X hlim ho hcd hroom hb (by first | rfl | decide | with_unfolding_all rfl) (fun s₁ IC => ?_) rfl rfl rfl
  obtain ⟨h₁, tk₁, rfl⟩ := IC.toInCall.same
  have k : ∀ b o, s.heap.get? b = some o → h₁.get? b = some o := IC.toInCall.keep
  have hn := IC.toInCall.ns
  have hxL : s.heap.objs.size ≠ x := Nat.ne_of_gt (Heap.lt_size hx)
  have X₁ : K.In h₁ := X.keeps k
  have hx₁ := k _ _ hx
  have z : s.heap.objs.size < h₁.objs.size := hn.lt
  show wpAny _ _ (execs _ _) _ _ _
  refine wpAny_execs_cons (plainObj_wpAny_Assign_Attribute ?_)
  refine ldL (v := v0) hn (by first | rfl | with_unfolding_all rfl | kernel_rfl) (ldL (v := .ref x) hn (by first | rfl | with_unfolding_all rfl | kernel_rfl) ?_)
  refine put0 T h0 X₁ hx₁ (fun h₃ tk₃ dx k₃ dn dne hx₃ hn₃ => ?_)
  show wpAny _ _ (execs _ _) _ _ _
  exact wpAny_execs_nil (hq h₃ tk₃ dx ⟨fun b o hb e => k₃ b o hb (k b o e), hx₃, Nat.le_of_lt (Nat.lt_of_lt_of_le z dn), dne, hn₃⟩)
theorem made_word (T : ErrT K C fI fs) (h0 : (PySem.Str.ofString "word") ∈ fs) {qual : Str} {p0 p1 q00 q01 q02 q03 : Pos} {fd : FuncData} (Fu : L2.FunD K "__init__" qual (ar_word p0 p1) (bo_word q00 q01 q02 q03) sc_word [] [] fI fd) {v0 : Value} (X : K.In s.heap) (hlim : s.heap.NoLimit) (hroom : A.depth + 1 < recursionLimit)
    (hq : ∀ h' tk e d, MadeE s.heap h' e C d (mapOf [("word", v0)]) → R (.ok (.ret (.ref e))) { s with heap := h', toks := tk }) :
    codeAny (model prog w) A (.call (.ref C) ⟨[v0], []⟩) R s := by
  obtain ⟨nm, N, q, bs, bm, hdct, sn, sub, ab, col, dd, k0, k1, k2, k3, k5, hC, hT⟩ := excInit_of X T.cls
  obtain ⟨hp, g, dr, tk, os⟩ := s
  have k : ∀ b o, hp.get? b = some o → ((hp.push (kdv_tup [v0])).push (excO C hp.objs.size)).get? b = some o := fun b o e => Heap.get?_push_of_some _ (Heap.get?_push_of_some _ e)
  have hget : ((hp.push (kdv_tup [v0])).push (excO C hp.objs.size)).get? (hp.objs.size + 1) = some (excO C hp.objs.size) := by heap_get
  have hnx : K.lookup (hp.objs.size + 1) = none := by
    cases e : K.lookup (hp.objs.size + 1) with
    | none => rfl
    | some o => exact absurd (Nat.lt_of_succ_lt (Heap.lt_size (show hp.get? (hp.objs.size + 1) = some o from X _ _ e))) (Nat.lt_irrefl _)
  refine call_own F.excBase_Exception hT hC (looks_findIn X T.iC) (fun self => bind_fn X self T.tC) (by show [v0].length ≤ sizeLine; rw [sizeLine_eq]; exact (by decide : 1 ≤ 16777216)) ?_
  refine init_word (s := ⟨(hp.push (kdv_tup [v0])).push (excO C hp.objs.size), g, dr, tk, os⟩) T h0 Fu (X.keeps k) (hlim.keeps k) hget hnx (by show A.depth + 1 < recursionLimit; exact hroom) fun h' tk' dx ⟨k', hx, dn, dne, hns⟩ => ?_
  have old : ∀ b o, hp.get? b = some o → h'.get? b = some o := fun b o e => k' b o (Nat.ne_of_lt (Nat.lt_succ_of_lt (Heap.lt_size e))) (k b o e)
  have z : hp.objs.size + 1 + 1 ≤ dx := by
    first
      | (simpa only [Heap.size_push] using dn)
      | exact dn
  exact ⟨rfl, hq h' tk' (hp.objs.size + 1) dx ⟨old, Nat.le_succ _, ⟨_, _, hx, rfl, rfl, rfl, rfl⟩, Nat.le_trans (Nat.le_trans (Nat.le_succ _) (Nat.le_succ _)) z, dne, hns⟩⟩
def ar_layer_at (p0 p1 p2 : Pos) : Arguments := { posonlyargs := [], args := [{ arg := "self", annotation := none, pos := p0 }, { arg := "layer", annotation := none, pos := p1 }, { arg := "at", annotation := none, pos := p2 }], vararg := none, kwonlyargs := [], kw_defaults := [], kwarg := none, defaults := [] }
def bo_layer_at (q00 q01 q02 q03 q10 q11 q12 q13 : Pos) : List Stmt := [st1 "layer" q00 q01 q02 q03, st1 "at" q10 q11 q12 q13]
def sc_layer_at : Scope := { kind := .function, names := [(PySem.Str.ofString "self", .local), (PySem.Str.ofString "layer", .local), (PySem.Str.ofString "at", .local)], isGenerator := false, isCoroutine := false, more := [] }
theorem init_layer_at (T : ErrT K C fI fs) (h0 : (PySem.Str.ofString "layer") ∈ fs) (h1 : (PySem.Str.ofString "at") ∈ fs) {qual : Str} {p0 p1 p2 q00 q01 q02 q03 q10 q11 q12 q13 : Pos} {fd : FuncData} (Fu : L2.FunD K "__init__" qual (ar_layer_at p0 p1 p2) (bo_layer_at q00 q01 q02 q03 q10 q11 q12 q13) sc_layer_at [] [] fI fd) {x t0 : Addr} {v0 v1 : Value} (X : K.In s.heap) (hlim : s.heap.NoLimit) (hx : s.heap.get? x = some (excO C t0)) (hnx : K.lookup x = none)
    (hroom : A.depth < recursionLimit) (hq : ∀ h' tk dx, InitE s.heap h' x C dx t0 (mapOf [("at", v1), ("layer", v0)]) → R (.ok (.ret .none)) { s with heap := h', toks := tk }) :
    codeAny (model prog w) A (.call (.ref fI) ⟨[.ref x, v0, v1], []⟩) R s := by
  have hb := Fu.bindsA (ps := ["self", "layer", "at"]) (fun _ _ _ _ _ _ us hl => match us, hl with | [_, _, _], _ => rfl) s [.ref x, v0, v1] rfl
  obtain ⟨oc, od, dV, kV, doc, pm, an, cdv, ct, osl, rfl, ho, hcd, _, _⟩ := Fu.ex
  refine Att.call_fn (binds := [("self", .ref x), ("layer", v0), ("at", v1)]) X hlim ho hcd hroom hb (by first | rfl | decide | with_unfolding_all rfl) (fun s₁ IC => ?_) rfl rfl rfl
  obtain ⟨h₁, tk₁, rfl⟩ := IC.toInCall.same
  have k : ∀ b o, s.heap.get? b = some o → h₁.get? b = some o := IC.toInCall.keep
  have hn := IC.toInCall.ns
  have hxL : s.heap.objs.size ≠ x := Nat.ne_of_gt (Heap.lt_size hx)
  have X₁ : K.In h₁ := X.keeps k
  have hx₁ := k _ _ hx
  have z : s.heap.objs.size < h₁.objs.size := hn.lt
  show wpAny _ _ (execs _ _) _ _ _
  refine wpAny_execs_cons (plainObj_wpAny_Assign_Attribute ?_)
  refine ldL (v := v0) hn (by first | rfl | with_unfolding_all rfl | kernel_rfl) (ldL (v := .ref x) hn (by first | rfl | with_unfolding_all rfl | kernel_rfl) ?_)
  refine put0 T h0 X₁ hx₁ (fun h₃ tk₃ dx k₃ dn dne hx₃ hn₃ => ?_)
  show wpAny _ _ (execs _ _) _ _ _
  have hn2 : h₃.Ns s.heap.objs.size _ := hn.at fun o e => k₃ _ o hxL e
  have X₃ : K.In h₃ := fun a o e => k₃ a o (fun z => by rw [z, hnx] at e; cases e) (X₁ a o e)
  refine wpAny_execs_cons (plainObj_wpAny_Assign_Attribute ?_)
  refine ldL (v := v1) hn2 (by first | rfl | with_unfolding_all rfl | kernel_rfl) (ldL (v := .ref x) hn2 (by first | rfl | with_unfolding_all rfl | kernel_rfl) ?_)
  refine putD T h1 (nl := ["layer"]) X₃ hx₃ hn₃ (Within.cons _ _ Within.nil) (by decide) (fun h₄ tk₄ k₄ hn₄ => ?_)
  show wpAny _ _ (execs _ _) _ _ _
  refine wpAny_execs_nil (hq h₄ tk₄ dx ⟨fun b o hb e => k₄ b o (fun q => ?_) (k₃ b o hb (k b o e)), k₄ x _ (Ne.symm dne) hx₃, Nat.le_of_lt (Nat.lt_of_lt_of_le z dn), dne, hn₄⟩)
  exact absurd (Nat.lt_of_lt_of_le (Heap.lt_size (k b o e)) dn) (by rw [q]; exact Nat.lt_irrefl _)
theorem made_layer_at (T : ErrT K C fI fs) (h0 : (PySem.Str.ofString "layer") ∈ fs) (h1 : (PySem.Str.ofString "at") ∈ fs) {qual : Str} {p0 p1 p2 q00 q01 q02 q03 q10 q11 q12 q13 : Pos} {fd : FuncData} (Fu : L2.FunD K "__init__" qual (ar_layer_at p0 p1 p2) (bo_layer_at q00 q01 q02 q03 q10 q11 q12 q13) sc_layer_at [] [] fI fd) {v0 v1 : Value} (X : K.In s.heap) (hlim : s.heap.NoLimit) (hroom : A.depth + 1 < recursionLimit)
    (hq : ∀ h' tk e d, MadeE s.heap h' e C d (mapOf [("at", v1), ("layer", v0)]) → R (.ok (.ret (.ref e))) { s with heap := h', toks := tk }) :
    codeAny (model prog w) A (.call (.ref C) ⟨[v0, v1], []⟩) R s := by
  obtain ⟨nm, N, q, bs, bm, hdct, sn, sub, ab, col, dd, k0, k1, k2, k3, k5, hC, hT⟩ := excInit_of X T.cls
  obtain ⟨hp, g, dr, tk, os⟩ := s
  have k : ∀ b o, hp.get? b = some o → ((hp.push (kdv_tup [v0, v1])).push (excO C hp.objs.size)).get? b = some o := fun b o e => Heap.get?_push_of_some _ (Heap.get?_push_of_some _ e)
  have hget : ((hp.push (kdv_tup [v0, v1])).push (excO C hp.objs.size)).get? (hp.objs.size + 1) = some (excO C hp.objs.size) := by heap_get
  have hnx : K.lookup (hp.objs.size + 1) = none := by
    cases e : K.lookup (hp.objs.size + 1) with
    | none => rfl
    | some o => exact absurd (Nat.lt_of_succ_lt (Heap.lt_size (show hp.get? (hp.objs.size + 1) = some o from X _ _ e))) (Nat.lt_irrefl _)
  refine call_own F.excBase_Exception hT hC (looks_findIn X T.iC) (fun self => bind_fn X self T.tC) (by show [v0, v1].length ≤ sizeLine; rw [sizeLine_eq]; exact (by decide : 2 ≤ 16777216)) ?_
  refine init_layer_at (s := ⟨(hp.push (kdv_tup [v0, v1])).push (excO C hp.objs.size), g, dr, tk, os⟩) T h0 h1 Fu (X.keeps k) (hlim.keeps k) hget hnx (by show A.depth + 1 < recursionLimit; exact hroom) fun h' tk' dx ⟨k', hx, dn, dne, hns⟩ => ?_
  have old : ∀ b o, hp.get? b = some o → h'.get? b = some o := fun b o e => k' b o (Nat.ne_of_lt (Nat.lt_succ_of_lt (Heap.lt_size e))) (k b o e)
  have z : hp.objs.size + 1 + 1 ≤ dx := by
    first
      | (simpa only [Heap.size_push] using dn)
      | exact dn
  exact ⟨rfl, hq h' tk' (hp.objs.size + 1) dx ⟨old, Nat.le_succ _, ⟨_, _, hx, rfl, rfl, rfl, rfl⟩, Nat.le_trans (Nat.le_trans (Nat.le_succ _) (Nat.le_succ _)) z, dne, hns⟩⟩
end
/-- an error's class, told by what it makes of so many values -/
structure ErrC (K : Frag) (C : Addr) (fs : List Str) : Prop where
  ex : ∃ fI, ErrT K C fI fs
  mkE : ∀ {prog : Program} {w : World} {A : Around} {R : Result → Shared → Prop} {s : Shared} {us : List Value}, us.length = fs.length → K.In s.heap → s.heap.NoLimit → A.depth + 1 < recursionLimit →
    (∀ h' tk e d, MadeE s.heap h' e C d (mapOf (fs.reverse.zip us.reverse)) → R (.ok (.ret (.ref e))) { s with heap := h', toks := tk }) → codeAny (model prog w) A (.call (.ref C) ⟨us, []⟩) R s
theorem errC_at {K : Frag} {C fI : Addr} (T : ErrT K C fI ["at"]) {qual : Str} {p0 p1 q00 q01 q02 q03 : Pos} {fd : FuncData} (Fu : L2.FunD K "__init__" qual (ar_at p0 p1) (bo_at q00 q01 q02 q03) sc_at [] [] fI fd) : ErrC K C ["at"] where
  ex := ⟨fI, T⟩
  mkE := fun {_ _ _ _ _ us} hl X hlim hroom hq => match us, hl, hq with
    | [_], _, hq => made_at T (by simp) Fu X hlim hroom hq
theorem errC_word {K : Frag} {C fI : Addr} (T : ErrT K C fI ["word"]) {qual : Str} {p0 p1 q00 q01 q02 q03 : Pos} {fd : FuncData} (Fu : L2.FunD K "__init__" qual (ar_word p0 p1) (bo_word q00 q01 q02 q03) sc_word [] [] fI fd) : ErrC K C ["word"] where
  ex := ⟨fI, T⟩
  mkE := fun {_ _ _ _ _ us} hl X hlim hroom hq => match us, hl, hq with
    | [_], _, hq => made_word T (by simp) Fu X hlim hroom hq
theorem errC_layer_at {K : Frag} {C fI : Addr} (T : ErrT K C fI ["layer", "at"]) {qual : Str} {p0 p1 p2 q00 q01 q02 q03 q10 q11 q12 q13 : Pos} {fd : FuncData} (Fu : L2.FunD K "__init__" qual (ar_layer_at p0 p1 p2) (bo_layer_at q00 q01 q02 q03 q10 q11 q12 q13) sc_layer_at [] [] fI fd) : ErrC K C ["layer", "at"] where
  ex := ⟨fI, T⟩
  mkE := fun {_ _ _ _ _ us} hl X hlim hroom hq => match us, hl, hq with
    | [_, _], _, hq => made_layer_at T (by simp) (by simp) Fu X hlim hroom hq
end DX

namespace DL
open PySem L2
/-! ### raise of an own error -/
theorem vals_rev : ∀ {vs : List V} {us : List Value}, Vals vs us → Vals vs.reverse us.reverse
  | _, _, .nil => .nil
  | _, _, .cons r t => by
    rw [List.reverse_cons, List.reverse_cons]
    exact (vals_rev t).append (.cons r .nil)
theorem relO_map : ∀ (ks : List Str) {vs : List V} {us : List Value}, Vals vs us → ∀ f, RelO ((ks.zip vs).lookup f) (DX.mapOf (ks.zip us) f)
  | [], _, _, _, f => True.intro
  | k :: ks, _, _, .nil, f => True.intro
  | k :: ks, _, _, .cons (a := v) (b := u) r t, f => by
    simp only [List.zip_cons_cons, List.lookup_cons, DX.mapOf]
    by_cases e : f = k
    · subst e
      simp only [beq_self_eq_true, if_true]
      exact r
    · rw [if_neg e]
      have : (f == k) = false := by simpa using e
      rw [this]
      exact relO_map ks t f
def tMkE (C : Addr) (fs : List Str) (ta : TA) : St → Hp → XK → Prop := fun σ H Q => ta σ H fun vs H1 => vs.length = fs.length ∧ ∀ d, H1 d = none → Q (.ref C) (some d) (upd H1 d (.xd (fs.reverse.zip vs.reverse)))
theorem pmk_err {X : Cx} {C : Addr} {fs : List Str} {x : Str} {a : Expr} {es : List Expr} {ta : TA} {p pos : Pos} {k : Nat} (T : DX.ErrC X.K C fs) (gC : X.mg x = some (.ref C)) (hr : Room k X.A) (ha : PA X (a :: es) ta) (hg : Gl X x := by rfl)
    (he : starEach (a :: es) X.env = (false, eval a X.env) :: starEach es X.env := by rfl) (hpl : (backTo pos (starEach es X.env)).any (·.1) = false := by rfl) (hdb : (x == ("__debug__" : Str)) = false := by decide) :
    PMk X (.Call (.Name x p) (a :: es) [] pos) (tMkE C fs ta) := by
  intro pins s σ H Q I h
  obtain ⟨fI, T0⟩ := T.ex
  refine wpAny_Call_Name_kw (ld_glob I hg gC ?_ hdb)
  refine PySem.W.callWith_K (h₀ := X.base) I.ok.mod.kin T0.kC (thn (ha.run pos pins s σ H _ I h) fun us s1 hh => ?_) he hpl
  obtain ⟨vs, H1, I1, r1, hl, q1⟩ := hh
  refine ⟨I1.kIn, ?_⟩
  show wpAny _ _ (call (.ref C) us) _ _ _
  have hlim := I1.nolimit
  have hlu : us.length = fs.length := by rw [← r1.length]; exact hl
  have rel := relO_map fs.reverse (vals_rev r1)
  obtain ⟨hp, g, dr, tk, os⟩ := s1
  refine wpAny_call (T.mkE hlu I1.kIn hlim (by have := hr.dp; omega) fun h' tk' e d M => ?_)
  show MkP X pins σ Q (.ref e) ⟨h', g, dr, tk', os⟩
  obtain ⟨oe, fv, hoe, hc, hd, hdat, h1⟩ := M.obj
  have hns := M.ns
  obtain ⟨G', g1, g2⟩ := restrict h' fun b => decide (b ≠ e)
  have gk : ∀ b, b ≠ e → G'.get? b = h'.get? b := fun b hb => g1 b (decide_eq_true hb)
  have ge : G'.get? e = none := g2 e (by simp)
  have old : ∀ b o, hp.get? b = some o → G'.get? b = some o := fun b o q => (gk b (Nat.ne_of_lt (Nat.lt_of_lt_of_le (Heap.lt_size q) M.new))).trans (M.keep b o q)
  have ob : ObjOk X.prog X.w (upd H1 d (.xd (fs.reverse.zip vs.reverse))) G' d (.xd (fs.reverse.zip vs.reverse)) :=
    ⟨_, hns.at (fun o q => (gk d M.dne).trans q), rel⟩
  have J : Inv X pins σ (upd H1 d (.xd (fs.reverse.zip vs.reverse))) ⟨G', g, dr, tk', os⟩ := I1.laid (t' := tk') old M.dbig ob
  refine ⟨e, oe, fv, ⟨G', g, dr, tk', os⟩, _, .ref C, some d, rfl, J, fun b o q => ?_, ge, hoe, ⟨hc, hd⟩, hdat, h1, ?_, rfl, I1.bare, raises_own T0.exC T0.tyC, q1 d (I1.hok.fresh M.dbig)⟩
  · by_cases hb : b = e
    · have q' : G'.get? b = some o := q
      rw [hb, ge] at q'
      cases q'
    · exact (gk b hb).symm.trans q
  · rw [upd_ne (Ne.symm M.dne)]
    exact I1.hok.fresh M.new
theorem reps_rev {K : PySem.W.Frag} {H : Hp} : ∀ {l : List PyData} {vs : List V}, Reps K H vs l → Reps K H vs.reverse l.reverse
  | [], _, h => by rw [show _ = [] from h]; exact rfl
  | d :: ds, _, ⟨v, r, e, h1, h2⟩ => by
    rw [e, List.reverse_cons, List.reverse_cons]
    exact (reps_rev h2).append (Reps.one h1)
def wRaise (tag : Str) (fs : List Str) (wa : WA) : WS := fun Γ P => wa Γ (fun rs Γ1 => match rdF rs with
  | some xs => xs.length = fs.length ∧ P.xc ⟨tag, fs.reverse.zip xs.reverse⟩ Γ1
  | none => False) P.xc
theorem ds_raise {X : Cx} {W : WX} {C : Addr} {fs : List Str} {x : Str} {a : Expr} {es : List Expr} {wa : WA} {p pos pos2 : Pos} {k : Nat} (hc : X.calm = true) (tk : Takes X W) (T : DX.ErrC X.K C fs) (gC : X.mg x = some (.ref C)) (hr : Room k X.A) (ha : DA X W (a :: es) wa) (hg : Gl X x := by rfl)
    (he : starEach (a :: es) X.env = (false, eval a X.env) :: starEach es X.env := by rfl) (hpl : (backTo pos (starEach es X.env)).any (·.1) = false := by rfl) (hdb : (x == ("__debug__" : Str)) = false := by decide) :
    DS X W (.Raise (some (.Call (.Name x p) (a :: es) [] pos)) none pos2) (wRaise x fs wa) :=
  ds_of (ps_raise hc tk (pmk_err T gC hr ha.pa hg he hpl hdb)) fun D σ H ⟨B, F, Γ, P, E, hw, k⟩ => ⟨B, F, Γ, _, P.xc, E, hw, fun vs rs H' F' Γ' s E' rr q => by
    have q' : match rdF rs with
      | some xs => xs.length = fs.length ∧ P.xc ⟨x, fs.reverse.zip xs.reverse⟩ Γ'
      | none => False := q
    cases ex : rdF rs with
    | none => rw [ex] at q'; exact q'.elim
    | some xs =>
      rw [ex] at q'
      have rp := rr.reps ex
      have hl : vs.length = fs.length := by rw [rp.len]; exact q'.1
      refine ⟨hl, fun d hd => ?_⟩
      have hF : F' d = none := none_back E'.ex hd
      have l1 : fs.reverse.length = vs.reverse.length := by rw [List.length_reverse, List.length_reverse, hl]
      have l2 : fs.reverse.length = xs.reverse.length := by rw [List.length_reverse, List.length_reverse, q'.1]
      refine k.xc σ ⟨x, fs.reverse.zip xs.reverse⟩ (.ref C) (some d) _ (upd F' d (.xd (fs.reverse.zip vs.reverse))) Γ' q'.2 (s.trans (same_upd hF)) (E'.lay hd) ⟨gC, d, _, rfl, upd_same, ?_, ?_⟩
      · rw [List.map_fst_zip (by omega), List.map_fst_zip (by omega)]
      · rw [List.map_snd_zip (by omega), List.map_snd_zip (by omega)]
        exact Reps.mono (same_upd hF) _ _ (reps_rev rp), k.xc σ⟩
/-! ### try: .., except C as n: return what the error carries -/
theorem EnvR.setNo {K : PySem.W.Frag} {B : Bs} {F H : Hp} {σ : St} {Γ : G} (E : EnvR K B F H σ Γ) {i : Nat} (o : Option V) (h : stOk Γ i) : EnvR K B F H (σ.set i o) (Γ.set i .no) := by
  obtain ⟨hl, hc⟩ := stOk_lt h
  have sne : ∀ {j : Nat}, i ≠ j → (σ.set i o)[j]? = σ[j]? := fun {j} h => List.getElem?_set_ne h
  have cut : ∀ {j : Nat} {s : Sl}, (Γ.set i Sl.no)[j]? = some s → s ≠ .no → i ≠ j ∧ Γ[j]? = some s := fun {j s} hj hs => by
    by_cases hij : i = j
    · subst hij
      rw [get_set_self hl] at hj
      exact absurd (Option.some.inj hj).symm hs
    · exact ⟨hij, by rwa [get_set_ne hij] at hj⟩
  have nmu : ∀ {s : Sl} {m : List PyData}, s.mu = some m → s ≠ .no := fun {s m} hm z => by rw [z] at hm; cases hm
  refine ⟨E.ex, by rw [List.length_set, List.length_set]; exact E.len, fun j d hj => ?_, fun j s m hj hm => ?_, fun j q hq => ?_, fun j m hj => ?_, fun j k s t m n q hj hk hm hn e1 e2 => ?_, E.keep, E.frz⟩
  · obtain ⟨hij, hj⟩ := cut hj (fun z => by cases z)
    rw [sne hij]
    exact E.val j d hj
  · obtain ⟨hij, hj⟩ := cut hj (nmu hm)
    rw [sne hij]
    exact E.mu j s m hj hm
  · obtain ⟨l, a1, a2⟩ := E.pin j q hq
    have hij : i ≠ j := fun z => by subst z; exact hc l a1
    exact ⟨l, by rw [get_set_ne hij]; exact a1, by rw [sne hij]; exact a2⟩
  · obtain ⟨hij, hj⟩ := cut hj (fun z => by cases z)
    exact E.cel j m hj
  · obtain ⟨h1, hj⟩ := cut hj (nmu hm)
    obtain ⟨h2, hk⟩ := cut hk (nmu hn)
    rw [sne h1] at e1
    rw [sne h2] at e2
    exact E.apart j k s t m n q hj hk hm hn e1 e2
/-- the reading of an except suite's expression -/
def tSv (K : PySem.W.Frag) (mg : Str → Option Value) (i : Nat) (C : Addr) (val : XN → Option PyData) (a : Addr) (cls : Value) (d : Option Addr) : TE := fun σ H Q => ∃ B F Γ x y, EnvR K B F H σ Γ ∧ σ[i]? = some (some (V.ref a)) ∧ cls = .ref C ∧ XR K mg F H x cls d ∧ val x = some y ∧
  ∀ v F' H', Same F F' → EnvR K B F' H' σ Γ → Rep K F' v y → Q v H'
/-- an except suite's expression gives val of the error -/
def Sv (X : Cx) (i : Nat) (C : Addr) (e : Expr) (val : XN → Option PyData) : Prop := ∀ (a : Addr) (oe : Obj) (cls : Value) (d : Option Addr) (pn : List (Addr × Obj)), Zc cls d oe → (∃ vs, oe.data = .fields vs) → PE (X.suite a ((a, oe) :: pn)) e (tSv X.K X.mg i C val a cls d)
theorem look_rep {K : PySem.W.Frag} {H : Hp} {f : Str} {y : PyData} : ∀ {kvs : List (Str × V)} {fs : List (Str × PyData)}, kvs.map (·.1) = fs.map (·.1) → Reps K H (kvs.map (·.2)) (fs.map (·.2)) → fs.lookup f = some y → ∃ v, kvs.lookup f = some v ∧ Rep K H v y
  | kvs, [], _, _, e => by cases e
  | [], (g, z) :: fs, h, _, _ => by cases h
  | (k, v) :: kvs, (g, z) :: fs, h, r, e => by
    simp only [List.map_cons, List.cons.injEq] at h
    obtain ⟨h1, h2⟩ := h
    obtain ⟨v', r', e1, r1, r2⟩ := r
    simp only [List.map_cons, List.cons.injEq] at e1
    obtain ⟨e1, e2⟩ := e1
    subst h1 e1 e2
    rw [List.lookup_cons] at e ⊢
    cases q : (f == k) with
    | true =>
      rw [q] at e
      cases e
      exact ⟨v, rfl, r1⟩
    | false =>
      rw [q] at e
      exact look_rep h2 r2 e
theorem xf_fld {K : PySem.W.Frag} {mg : Str → Option Value} {F H : Hp} {a : Addr} {cls : Value} {d : Option Addr} {C : Addr} {f : Str} {i : Nat} {x : XN} {y : PyData} {σ : St} {Q : VK} (hi : σ[i]? = some (some (V.ref a))) (hc : cls = .ref C) (hx : XR K mg F H x cls d) (hf : x.fs.lookup f = some y)
    (q : ∀ v, Rep K F v y → Q v H) : tXf a cls d C f (tVar i) σ H Q := by
  obtain ⟨_, dd, kvs, e, h1, h2, h3⟩ := hx
  obtain ⟨v, lv, rv⟩ := look_rep h2 h3 hf
  exact ⟨_, hi, rfl, hc, dd, kvs, v, e, h1, lv, q v rv⟩
section
variable {X : Cx} {i : Nat} {C : Addr} {e : Expr} {n f g : Str} {c : Str} {np p1 p2 p3 p4 pos : Pos} {j : Nat}
theorem xfc_of {K : PySem.W.Frag} {fI : Addr} {fs : List Str} (T : DX.ErrT K C fI fs) : XfC K C := ⟨T.ga, T.gg, T.exC, T.hd⟩
theorem noX_of {K : PySem.W.Frag} {fs : List Str} (T : DX.ErrC K C fs) {f : Str} (hf : f ∈ fs) : XfC K C ∧ PySem.W.findIn K (.ref C) f = some none := by
  obtain ⟨fI, T⟩ := T.ex
  exact ⟨xfc_of T, T.no f hf⟩
/-- n.f -/
theorem sv_fld {fs : List Str} (T : DX.ErrC X.K C fs) (hf : f ∈ fs) (hv : ∀ (a : Addr) (pn : List (Addr × Obj)), PE (X.suite a pn) (.Name n np) (tVar i)) (hb : attributeBase (.Name n np) f X.env (eval (.Name n np) X.env) = eval (.Name n np) X.env := by rfl) :
    Sv X i C (.Attribute (.Name n np) f pos) fun x => x.fs.lookup f := by
  intro a oe cls d pn hz hd
  obtain ⟨hx, hno⟩ := noX_of T hf
  refine (pe_xf (X := X) hx hno hz hd (hv a _) hb).imp fun σ H Q ⟨B, F, Γ, x, y, E, hi, hc, xr, hval, k⟩ => ?_
  exact xf_fld hi hc xr hval fun v rv => k v F H (Same.id F) E rv
theorem rep_of_tup {K : PySem.W.Frag} {B : Bs} {F H : Hp} {σ : St} {Γ : G} (E : EnvR K B F H σ Γ) {p : Addr} {vs : List V} {l : List PyData} (hp : H p = none) (r : Reps K F vs l) :
    Same F (upd F p (.tup vs)) ∧ EnvR K B (upd F p (.tup vs)) (upd H p (.tup vs)) σ Γ ∧ Rep K (upd F p (.tup vs)) (.ref p) (.tuple l) :=
  ⟨same_upd (none_back E.ex hp), E.lay hp, rep_tup (none_back E.ex hp) r⟩
/-- ('c', n.f) -/
theorem sv_tup2 {x1} {fs : List Str} (T : DX.ErrC X.K C fs) (hf : f ∈ fs) (hv : ∀ (a : Addr) (pn : List (Addr × Obj)), PE (X.suite a pn) (.Name n np) (tVar i)) (hb : attributeBase (.Name n np) f X.env (eval (.Name n np) X.env) = eval (.Name n np) X.env := by rfl)
    (h1 : starEach [.Constant (.str c) j p1, .Attribute (.Name n np) f p2] X.env = (false, eval (.Constant (.str c) j p1) X.env) :: starEach [.Attribute (.Name n np) f p2] X.env := by rfl) (h2 : starEach [.Attribute (.Name n np) f p2] X.env = (false, eval (.Attribute (.Name n np) f p2) X.env) :: starEach [] X.env := by rfl) :
    Sv X i C (.Tuple [.Constant (.str c) j p1, .Attribute (.Name n np) f p2] x1 pos) fun x => (x.fs.lookup f).map fun y => .tuple [.str c, y] := by
  intro a oe cls d pn hz hd
  obtain ⟨hx, hno⟩ := noX_of T hf
  refine (pe_tup (pa_cons pe_str (pa_cons (pe_xf (X := X) hx hno hz hd (hv a _) hb) pa_nil h2) h1)).imp fun σ H Q ⟨B, F, Γ, x, y, E, hi, hc, xr, hval, k⟩ => ?_
  obtain ⟨z, hz, rfl⟩ := Option.map_eq_some_iff.mp hval
  refine xf_fld hi hc xr hz fun v rv => ⟨by show 2 ≤ sizeLine; decide, fun p hp => ?_⟩
  obtain ⟨s1, E1, r1⟩ := rep_of_tup E (vs := [.str c, v]) (l := [.str c, z]) hp ⟨_, _, rfl, rfl, _, _, rfl, rv, rfl⟩
  exact k _ _ _ s1 E1 r1
/-- ('c', n.f, n.g) -/
theorem sv_tup3 {x1} {fs : List Str} (T : DX.ErrC X.K C fs) (hf : f ∈ fs) (hg : g ∈ fs) (hv : ∀ (a : Addr) (pn : List (Addr × Obj)), PE (X.suite a pn) (.Name n np) (tVar i)) {np2 : Pos} (hv2 : ∀ (a : Addr) (pn : List (Addr × Obj)), PE (X.suite a pn) (.Name n np2) (tVar i))
    (hb : attributeBase (.Name n np) f X.env (eval (.Name n np) X.env) = eval (.Name n np) X.env := by rfl) (hb2 : attributeBase (.Name n np2) g X.env (eval (.Name n np2) X.env) = eval (.Name n np2) X.env := by rfl)
    (h1 : starEach [.Constant (.str c) j p1, .Attribute (.Name n np) f p2, .Attribute (.Name n np2) g p3] X.env = (false, eval (.Constant (.str c) j p1) X.env) :: starEach [.Attribute (.Name n np) f p2, .Attribute (.Name n np2) g p3] X.env := by rfl)
    (h2 : starEach [.Attribute (.Name n np) f p2, .Attribute (.Name n np2) g p3] X.env = (false, eval (.Attribute (.Name n np) f p2) X.env) :: starEach [.Attribute (.Name n np2) g p3] X.env := by rfl)
    (h3 : starEach [.Attribute (.Name n np2) g p3] X.env = (false, eval (.Attribute (.Name n np2) g p3) X.env) :: starEach [] X.env := by rfl) :
    Sv X i C (.Tuple [.Constant (.str c) j p1, .Attribute (.Name n np) f p2, .Attribute (.Name n np2) g p3] x1 pos) fun x => (x.fs.lookup f).bind fun y => (x.fs.lookup g).map fun z => .tuple [.str c, y, z] := by
  intro a oe cls d pn hz hd
  obtain ⟨hx, hno⟩ := noX_of T hf
  obtain ⟨_, hno2⟩ := noX_of T hg
  refine (pe_tup (pa_cons pe_str (pa_cons (pe_xf (X := X) hx hno hz hd (hv a _) hb) (pa_cons (pe_xf (X := X) hx hno2 hz hd (hv2 a _) hb2) pa_nil h3) h2) h1)).imp fun σ H Q ⟨B, F, Γ, x, y, E, hi, hc, xr, hval, k⟩ => ?_
  obtain ⟨y1, hy1, hval⟩ := Option.bind_eq_some_iff.mp hval
  obtain ⟨z, hz, rfl⟩ := Option.map_eq_some_iff.mp hval
  show tXf a cls d C f (tVar i) σ H (fun v H1 => tXf a cls d C g (tVar i) σ H1 (fun v2 H2 => [V.str c, v, v2].length ≤ sizeLine ∧ ∀ p, H2 p = none → Q (.ref p) (upd H2 p (.tup [V.str c, v, v2]))))
  refine xf_fld hi hc xr hy1 fun v rv => ?_
  refine xf_fld hi hc xr hz fun v2 rv2 => ?_
  refine ⟨by show 3 ≤ sizeLine; decide, fun p hp => ?_⟩
  obtain ⟨s1, E1, r1⟩ := rep_of_tup E (vs := [.str c, v, v2]) (l := [.str c, y1, z]) hp ⟨_, _, rfl, rfl, _, _, rfl, rv, _, _, rfl, rv2, rfl⟩
  exact k _ _ _ s1 E1 r1
end
/-- which of the errors told by their names the class at c catches -/
def Cat (K : PySem.W.Frag) (mg : Str → Option Value) (C : Addr) (tags : List (Str × Bool)) : Prop := ∀ t b, tags.lookup t = some b → ∃ D : Addr, mg t = some (.ref D) ∧ PySem.W.exmOne K (.ref D) (.ref C) = some b ∧ (b = true → D = C)
def wTryV (tags : List (Str × Bool)) (i : Nat) (wb : WS) (val : XN → Option PyData) : WS := fun Γ P => wb Γ { P with xc := fun x Γ' => match tags.lookup x.tag with
  | some true => stOk Γ' i ∧ ∃ y, val x = some y ∧ P.rt (.d y) (Γ'.set i .no)
  | some false => P.xc x Γ'
  | none => False }
theorem ds_try {X : Cx} {W : WX} {x n : Str} {C : Addr} {i : Nat} {body : List Stmt} {e : Expr} {np pos pos' rp : Pos} {wb : WS} {val : XN → Option PyData} {tags : List (Str × Bool)} (hs : X.stack = X.env :: X.outer) (hf : X.env.frame = some X.env.locals) (hN : X.N.Nodup) (tk : Takes X W)
    (hc : Names X x (.ref C)) (ct : Cat X.K X.mg C tags) (hb : ∀ (W : WX) (pn : List (Addr × Obj)) (xe : Value → Shared → Prop), Takes (X.tr pn xe) W → DSs (X.tr pn xe) W body wb) (hv : Sv X i C e val)
    (hi : X.N[i]? = some n := by rfl) (hln : X.env.kindOf n = some .local := by rfl) :
    DS X W (.Try body [.ExceptHandler (some (.Name x np)) (some n) [.Return (some e) rp] pos'] [] [] pos) (wTryV tags i wb val) := by
  refine ds_of (ps_try_as (tb := fun W => liftS X.K X.mg W wb) (ts := fun a cls d => tRet (tSv X.K X.mg i C val a cls d)) hs hf hN hi hln hc tk (fun W pn xe tk' _ => (hb W pn xe tk').pss) (fun a oe cls d pn hz hd => pss_one (ps_ret (hv a oe cls d pn hz hd)))) fun D σ H ⟨B, F, Γ, P, E, hw, k⟩ => ?_
  refine ⟨B, F, Γ, _, E, hw, k.nx, k.rt, k.bk, k.ct, fun σ' y cls dd H' F' Γ' hx s E' xr => ?_⟩
  have hx' : match tags.lookup y.tag with
    | some true => stOk Γ' i ∧ ∃ z, val y = some z ∧ P.rt (.d z) (Γ'.set i .no)
    | some false => P.xc y Γ'
    | none => False := hx
  cases q : tags.lookup y.tag with
  | none => rw [q] at hx'; exact hx'.elim
  | some b =>
    rw [q] at hx'
    obtain ⟨D', m1, m2, m3⟩ := ct _ _ q
    have ec : cls = .ref D' := by
      have := xr.1
      rw [m1] at this
      exact (Option.some.inj this).symm
    subst ec
    refine ⟨b, m2, fun hb a ha => ?_, fun hb => ?_⟩
    · subst hb
      obtain ⟨ok, z, hz, hr⟩ := hx'
      have := m3 rfl
      subst this
      have hl := (stOk_lt ok).1
      refine ⟨B, F', Γ'.set i .no, y, z, E'.setNo _ ok, by simp [E'.len, hl], rfl, xr, hz, fun v F'' H'' s2 E2 r2 => ?_⟩
      exact k.rt v (.d z) _ H'' F'' _ (s.trans s2) E2 r2 hr
    · subst hb
      exact k.xc σ' y _ dd H' F' Γ' hx' s E' xr
end DL

namespace DL
open PySem L2
/-! ### own errors by the module's names -/
structure Er (K : PySem.W.Frag) (mg : Str → Option Value) (x : Str) (fs : List Str) : Prop where
  ex : ∃ C : Addr, mg x = some (.ref C) ∧ DX.ErrC K C fs
structure Ct (K : PySem.W.Frag) (mg : Str → Option Value) (x : Str) (fs : List Str) (tags : List (Str × Bool)) : Prop where
  ex : ∃ C : Addr, mg x = some (.ref C) ∧ DX.ErrC K C fs ∧ Cat K mg C tags
theorem ds_raiseE {X : Cx} {W : WX} {fs : List Str} {x : Str} {a : Expr} {es : List Expr} {wa : WA} {p pos pos2 : Pos} {k : Nat} (hc : X.calm = true) (tk : Takes X W) (T : Er X.K X.mg x fs) (hr : Room k X.A) (ha : DA X W (a :: es) wa) (hg : Gl X x := by rfl)
    (he : starEach (a :: es) X.env = (false, eval a X.env) :: starEach es X.env := by rfl) (hpl : (backTo pos (starEach es X.env)).any (·.1) = false := by rfl) (hdb : (x == ("__debug__" : Str)) = false := by decide) :
    DS X W (.Raise (some (.Call (.Name x p) (a :: es) [] pos)) none pos2) (wRaise x fs wa) := by
  obtain ⟨C, h1, h2⟩ := T.ex
  exact ds_raise hc tk h2 h1 hr ha hg he hpl hdb
theorem ds_tryE {X : Cx} {W : WX} {x n : Str} {fs : List Str} {i : Nat} {body : List Stmt} {e : Expr} {np pos pos' rp : Pos} {wb : WS} {val : XN → Option PyData} {tags : List (Str × Bool)} (hs : X.stack = X.env :: X.outer) (hf : X.env.frame = some X.env.locals) (hN : X.N.Nodup) (tk : Takes X W)
    (T : Ct X.K X.mg x fs tags) (hb : ∀ (W : WX) (pn : List (Addr × Obj)) (xe : Value → Shared → Prop), Takes (X.tr pn xe) W → DSs (X.tr pn xe) W body wb) (hv : ∀ C, DX.ErrC X.K C fs → Sv X i C e val) (hg : Gl X x := by rfl)
    (hdb : (x == ("__debug__" : Str)) = false := by decide) (hi : X.N[i]? = some n := by rfl) (hln : X.env.kindOf n = some .local := by rfl) :
    DS X W (.Try body [.ExceptHandler (some (.Name x np)) (some n) [.Return (some e) rp] pos'] [] [] pos) (wTryV tags i wb val) := by
  obtain ⟨C, h1, h2, h3⟩ := T.ex
  exact ds_try hs hf hN tk ⟨hg, hdb, .inl h1⟩ h3 hb (hv C h2) hi hln
/-! ### the head's facts, errors with them -/
def initOf : Stmt → Stmt
  | .ClassDef _ _ _ (s :: _) _ _ _ _ _ _ _ => s
  | s => s
def erB (K : PySem.W.Frag) (e : Str × List Str) : Bool := DX.errB K (He.ga K e.1) (He.ma K (He.ga K e.1) "__init__") e.2
def obsE (es : List (Str × List Str)) (cs : List (Str × PyData)) (fa : List He.Fa) (fn : List He.DefD) (K : PySem.W.Frag) : He.AlD := ((es.all fun e => erB K e) && (obsC cs fa fn K).1, (obsC cs fa fn K).2)
def SaysE (es : List (Str × List Str)) (cs : List (Str × PyData)) (fa : List He.Fa) (fn : List He.DefD) (K : PySem.W.Frag) : Prop := obsE es cs fa fn K = He.valD fn
def obsEG (n : Nat) (es : List (Str × List Str)) (cs : List (Str × PyData)) (fa : List He.Fa) (fn : List He.DefD) (g : Addr → Option Obj) : He.AlD := obsE es cs fa fn (He.frG g (asF g n mainGlobals))
def hookE (n : Nat) (es : List (Str × List Str)) (cs : List (Str × PyData)) (fa : List He.Fa) (fn : List He.DefD) : PySem.W.Hook where
  α := He.AlD
  obs := fun s => obsEG n es cs fa fn s.heap.get?
  val := fun _ => He.valD fn
  says := fun _ h => ∃ K : PySem.W.Frag, K.In h ∧ SaysE es cs fa fn K
  of := fun _ _ e => ⟨_, He.frG_in, e⟩
  keeps := fun _ _ _ ⟨K, hK, c⟩ k => ⟨K, PySem.W.Frag.In.keeps hK k, c⟩
theorem obsEG_eq {n : Nat} {es : List (Str × List Str)} {cs : List (Str × PyData)} {fa : List He.Fa} {fn : List He.DefD} {g : Addr → Option Obj} {s : Shared} (h : ∀ a, g a = s.heap.get? a) : obsEG n es cs fa fn g = (hookE n es cs fa fn).obs s := by
  have e : g = s.heap.get? := funext h
  rw [e] <;> rfl
section
variable {es : List (Str × List Str)} {cs : List (Str × PyData)} {fa : List He.Fa} {fn : List He.DefD} {K : PySem.W.Frag}
theorem SaysE.two (c : SaysE es cs fa fn K) : (es.all fun e => erB K e) = true ∧ SaysC cs fa fn K := by
  have h1 := congrArg (fun z : He.AlD => z.1) c
  have h2 := congrArg (fun z : He.AlD => z.2) c
  have h3 : ((es.all fun e => erB K e) && (obsC cs fa fn K).1) = true := h1
  rw [Bool.and_eq_true] at h3
  exact ⟨h3.1, Prod.ext h3.2 h2⟩
theorem SaysE.err (c : SaysE es cs fa fn K) (i : Nat) {x : Str} {fs : List Str} (h : es[i]? = some (x, fs) := by rfl) : DX.ErrT K (He.ga K x) (He.ma K (He.ga K x) "__init__") fs :=
  DX.errB_ok (List.all_eq_true.mp c.two.1 (x, fs) (List.mem_of_getElem? h))
end
theorem exm_ok {K : PySem.W.Frag} {x y : Str} {b : Bool} (c : (He.Fa.exm x y b).ok K = true) : PySem.W.exmOne K (.ref (He.ga K x)) (.ref (He.ga K y)) = some b := of_decide_eq_true c
end DL
namespace DL
open PySem L2
theorem cat_of {K : PySem.W.Frag} {mg : Str → Option Value} {C : Addr} {tags : List (Str × Bool)} (h : ∀ p ∈ tags, ∃ D : Addr, mg p.1 = some (.ref D) ∧ PySem.W.exmOne K (.ref D) (.ref C) = some p.2 ∧ (p.2 = true → D = C)) : Cat K mg C tags := by
  intro t b e
  have : (t, b) ∈ tags := by
    clear h
    induction tags with
    | nil => cases e
    | cons p r ih =>
      obtain ⟨k, v⟩ := p
      rw [List.lookup_cons] at e
      cases q : (t == k) with
      | true =>
        rw [q] at e
        cases e
        rw [beq_iff_eq] at q
        subst q
        exact List.mem_cons_self
      | false =>
        rw [q] at e
        exact List.mem_cons_of_mem _ (ih e)
  exact h _ this
end DL
namespace DL
open PySem L2
def xBad (k : Int) : XN := ⟨"BadValue", [("at", .int k)]⟩
theorem R_bad (k : Int) (Γ : G) (P : Pst) : wRaise "BadValue" ["at"] (wCons (wC (.int k)) wNil) Γ P = P.xc (xBad k) Γ := propext ⟨fun h => h.2, fun h => ⟨rfl, h⟩⟩
end DL

namespace DX
open PySem PySem.Spec PyProof.Rows L2
/-- what the clauses wish, one behind the other, the exception in slot i -/
def wManyAs (K : PySem.W.Frag) (i : Nat) (Wout : WX) (D : Ends) : List (Value × (Addr → Value → Option Addr → TS)) → WX
  | [] => Wout
  | (c, ts) :: r => wAs K c i ts (wManyAs K i Wout D r) D
inductive NamedHs (X : Cx) (n : Str) : List ExceptHandler → List (Value × (Addr → Value → Option Addr → TS)) → Prop
  | nil : NamedHs X n [] []
  | cons {x : Str} {c : Value} {ts : Addr → Value → Option Addr → TS} {b₀ : Stmt} {suite : List Stmt} {np pos' : Pos} {hds : List ExceptHandler} {l : List (Value × (Addr → Value → Option Addr → TS))} (hc : Names X x c)
      (hsu : ∀ (a : Addr) (oe : Obj) (cls : Value) (d : Option Addr) (pn : List (Addr × Obj)), Zc cls d oe → (∃ vs, oe.data = .fields vs) → PSs (X.suite a ((a, oe) :: pn)) (b₀ :: suite) (ts a cls d)) (r : NamedHs X n hds l) :
      NamedHs X n (.ExceptHandler (some (.Name x np)) (some n) (b₀ :: suite) pos' :: hds) ((c, ts) :: l)
section
variable {X : Cx} {n : Str} {i : Nat} {body : List Stmt} {h₀ : ExceptHandler} {hds : List ExceptHandler} {l : List (Value × (Addr → Value → Option Addr → TS))} {pos : Pos} {tb : WX → TS} {Wout : WX}
theorem try_named (hs : X.stack = X.env :: X.outer) (hf : X.env.frame = some X.env.locals) (hN : X.N.Nodup) (hi : X.N[i]? = some n) (hln : X.env.kindOf n = some .local) (tk : Takes X Wout)
    (hb : ∀ (W : WX) (pn : List (Addr × Obj)) (xe : Value → Shared → Prop), Takes (X.tr pn xe) W → PassesOwn (model X.prog X.w) X.A X.env xe → PSs (X.tr pn xe) body (tb W))
    (hh : NamedHs X n (h₀ :: hds) l) : PS X (.Try body (h₀ :: hds) [] [] pos) (fun D σ H => tb (wManyAs X.K i Wout D l) D σ H) := by
  refine ⟨fun pins s σ H D I h => ?_⟩
  have ok := I.ok
  have hfr : X.A.frames = some (X.env :: X.outer) := by rw [ok.frames, hs]
  have hloc : Loc X.env.scope n := .inl hln
  refine wpAny_Try_except ?_
  have body_ := (hb (wManyAs X.K i Wout D l) (X.pn ++ pins) (fun e s₁ => wpAny (model X.prog X.w) X.A (noteFrame e X.env) (fun _ s₂ => wpAny (model X.prog X.w) X.A (setFlight e none) (fun _ s₃ =>
    wpAny (model X.prog X.w) X.A (handleBy e X.env (h₀ :: hds)) (SP X pins D) X.xe s₃) X.xe s₂) X.xe s₁) (fun u s' xx => by
      obtain ⟨a, B, sI, pins', σ', H', cls, d, rfl, J', nb, up, sky, na, os, ag, w⟩ := xx
      have J : Inv X pins σ' H' sI := J'.ofTry ok
      have sky' : Sky B (X.env :: X.outer) a (Zc cls d) X.env.locals s'.heap := by rw [← hs]; exact sky
      show wpAny (model X.prog X.w) X.A (noteFrame (.ref a) X.env) _ _ _
      refine Sky.land Zc.steady hfr hf sky' fun h3 fl3 up3 => ?_
      have J3 : Inv X pins σ' H' { s' with heap := h3 } := J.landed nb fl3.1 (up.trans up3) os ag
      obtain ⟨oe3, vs3, he3, hz3, hd3⟩ := fl3.there
      have notFr : ∀ {h : Heap} {o : Obj} {vs : Array Value}, h.FunFrames B (X.env :: X.outer) → h.get? a = some o → o.data = .fields vs → a ∉ frs (X.env :: X.outer) := fun {h o vs} ff e dd hm => by
        obtain ⟨_, o', e', hnf⟩ := ff.mem hm
        rw [e] at e'; cases e'
        exact hnf _ dd
      have nfr := notFr fl3.2.2.1 he3 hd3
      have nL : a ≠ X.env.locals := fun z => nfr (List.mem_filterMap.mpr ⟨X.env, List.mem_cons_self, by rw [hf, z]⟩)
      have nF : a ∉ X.fs := fun hm => by
        obtain ⟨e, he, q⟩ := List.mem_filterMap.mp hm
        exact nfr (List.mem_filterMap.mpr ⟨e, List.mem_cons_of_mem _ he, q⟩)
      have S3 := J3.suite he3 hd3 na nL nF
      have LT : PySem.W.Looks (model X.prog X.w) h3 (typeOf (.ref a)) cls := fun A Q E s k q => wpAny_typeOf_ref (k _ _ he3) (by rw [hz3.1]; exact q)
      have go : ∀ {hs2 : List ExceptHandler} {l2 : List (Value × (Addr → Value → Option Addr → TS))}, NamedHs X n hs2 l2 → wManyAs X.K i Wout D l2 cls d σ' H' →
          wpAny (model X.prog X.w) X.A (handleBy (.ref a) X.env hs2) (SP X pins D) X.xe { s' with heap := h3 } := by
        intro hs2 l2 hk
        induction hk with
        | nil =>
          intro w
          refine wpAny_handleBy_nil ?_
          obtain ⟨k1, k2, k3, oe, vs, T, oT, ts', he, hz, hd, h1, hr⟩ := id fl3
          unfold PySem.passOn
          refine wpAny_bind (wpAny_field he hd h1 ?_)
          rw [if_neg (show ¬ ((Value.ref T == Value.none) = true) from by simp)]
          have fin : wpAny (model X.prog X.w) X.A (setFlight (.ref a) X.env.frame) (fun _ s4 => wpAny (model X.prog X.w) X.A (throw (.ref a) : Sem Flow) (SP X pins D) X.xe s4) X.xe { s' with heap := h3 } := by
            rw [hf]
            refine HandSPX.setFlight_upZ fl3 fun h4 hh4 up4 => wpAny_throw (tk _ _ ?_)
            exact ⟨a, B, sI, pins, σ', H', cls, d, rfl, J, nb, (up.trans up3).trans up4, .inr (.inr (by rw [hs]; exact hh4)), na, os, ag, w⟩
          first
            | exact wpAny_bind (wpAny_pure (wpAny_bind fin))
            | exact wpAny_bind fin
        | @cons x c ts b₀ suite np pos' hds2 l2 hc hsu r ih =>
          intro w
          obtain ⟨b, hb1, hyes, hno⟩ := w
          refine wpAny_handleBy_cons (codeAny_handlers_test ?_) (by intro q; cases q)
          have LM := PySem.W.exm_one (M := model X.prog X.w) (J3.kIn) LT hb1
          have test : ∀ {Q : Value → Shared → Prop} {E : Value → Shared → Prop}, Q c { s' with heap := h3 } → wpAny (model X.prog X.w) (X.A.mark (some (.ref a))) (eval (.Name x np) X.env) Q E { s' with heap := h3 } := fun {Q E} q => by
            obtain ⟨hg, hdbg, hm | ⟨hm, hv, hnn⟩⟩ := hc
            · exact ld_glob (X := X.suite a ((a, oe3) :: (X.pn ++ pins))) S3 hg hm q hdbg
            · exact ld_blt (X := X.suite a ((a, oe3) :: (X.pn ++ pins))) S3 hg hm hv q hnn hdbg
          refine test (LM.here ?_)
          cases b with
          | true =>
            refine codeAny_handlers_suite_as ?_
            refine HandSPX.lands_againZ fl3 fun h4 fl4 up4 => ?_
            have J4 : Inv X pins σ' H' { s' with heap := h4 } := J.landed nb fl4.1 ((up.trans up3).trans up4) os ag
            obtain ⟨oe4, vs4, he4, hz4, hd4⟩ := fl4.there
            have S4 := J4.suite he4 hd4 na nL nF
            refine store_ok (X := X.suite a ((a, oe4) :: (X.pn ++ pins))) (v := .ref a) S4 hN hi hloc rfl (fun s5 S5 => ?_) (.inr hln)
            refine wpAny_mono ((hsu a oe4 cls d (X.pn ++ pins) hz4 ⟨_, hd4⟩).run [] s5 _ H' _ S5 (hyes rfl a na)) (fun f s6 hsp => ?_) (fun _ _ z => False.elim z)
            have end_ : ∀ {σ6 : L2.St} {H6 : Hp} {Q : Shared → Prop}, Inv (X.suite a ((a, oe4) :: (X.pn ++ pins))) [] σ6 H6 s6 → (∀ s7, Inv X pins (σ6.set i none) H6 s7 → Q s7) →
                wpAny (model X.prog X.w) X.A (do bindName X.env n .none; unbindBehindTheSuite X.env n pos') (fun _ s7 => Q s7) X.xe s6 := fun {σ6 H6 Q} S6 hq => gone_ok (S6.unsuite ok) hN hi hln hq
            cases f with
            | next =>
              obtain ⟨σ6, H6, S6, q6⟩ := hsp
              exact end_ S6 fun s7 J7 => ⟨_, _, J7, q6⟩
            | brk =>
              obtain ⟨σ6, H6, S6, q6⟩ := hsp
              exact end_ S6 fun s7 J7 => ⟨_, _, J7, q6⟩
            | cont =>
              obtain ⟨σ6, H6, S6, q6⟩ := hsp
              exact end_ S6 fun s7 J7 => ⟨_, _, J7, q6⟩
            | ret u =>
              obtain ⟨v6, σ6, H6, S6, r6, q6⟩ := hsp
              exact end_ S6 fun s7 J7 => ⟨_, _, _, J7, r6, q6⟩
          | false =>
            show wpAny _ X.A (handleBy (.ref a) X.env hds2) _ _ _
            exact ih (hno rfl)
      exact go hh w) PassesOwn.looking).run [] s σ H D (I.toTry _) h
  refine wpAny_mono body_ (fun f s1 hsp => ?_) (fun e s1 he => he)
  cases f with
  | next =>
    obtain ⟨σ', H', J', q⟩ := hsp
    exact wpAny_execs_nil ⟨σ', H', J'.ofTry ok, q⟩
  | brk =>
    obtain ⟨σ', H', J', q⟩ := hsp
    exact ⟨σ', H', J'.ofTry ok, q⟩
  | cont =>
    obtain ⟨σ', H', J', q⟩ := hsp
    exact ⟨σ', H', J'.ofTry ok, q⟩
  | ret u =>
    obtain ⟨v, σ', H', J', r, q⟩ := hsp
    exact ⟨v, σ', H', J'.ofTry ok, r, q⟩
end
end DX

namespace DL
open PySem L2
abbrev Clause : Type := List (Str × Bool) × (XN → Option PyData)
def wClauses (i : Nat) (P : Pst) : List Clause → XN → G → Prop
  | [], x, Γ => P.xc x Γ
  | (tags, val) :: r, x, Γ => match tags.lookup x.tag with
    | some true => stOk Γ i ∧ ∃ y, val x = some y ∧ P.rt (.d y) (Γ.set i .no)
    | some false => wClauses i P r x Γ
    | none => False
def wTryM (i : Nat) (wb : WS) (cls : List Clause) : WS := fun Γ P => wb Γ { P with xc := fun x Γ' => wClauses i P cls x Γ' }
inductive ClOk (X : Cx) (i : Nat) (n : Str) : List ExceptHandler → List Clause → List (Value × (Addr → Value → Option Addr → TS)) → Prop
  | nil : ClOk X i n [] [] []
  | cons {x : Str} {C : Addr} {e : Expr} {np pos' rp : Pos} {tags : List (Str × Bool)} {val : XN → Option PyData} {hds : List ExceptHandler} {cs : List Clause} {l : List (Value × (Addr → Value → Option Addr → TS))}
      (hc : Names X x (.ref C)) (ct : Cat X.K X.mg C tags) (hv : Sv X i C e val) (r : ClOk X i n hds cs l) :
      ClOk X i n (.ExceptHandler (some (.Name x np)) (some n) [.Return (some e) rp] pos' :: hds) ((tags, val) :: cs) ((.ref C, fun a cls d => tRet (tSv X.K X.mg i C val a cls d)) :: l)
theorem ClOk.named {X : Cx} {i : Nat} {n : Str} {hds : List ExceptHandler} {cs : List Clause} {l : List (Value × (Addr → Value → Option Addr → TS))} (h : ClOk X i n hds cs l) : DX.NamedHs X n hds l := by
  induction h with
  | nil => exact .nil
  | cons hc ct hv r ih => exact .cons hc (fun a oe cls d pn hz hd => pss_one (ps_ret (hv a oe cls d pn hz hd))) ih
theorem ClOk.go {X : Cx} {i : Nat} {n : Str} {hds : List ExceptHandler} {cs : List Clause} {l : List (Value × (Addr → Value → Option Addr → TS))} (h : ClOk X i n hds cs l) {W : WX} {P : Pst} {D : Ends} {B : Bs} {F : Hp} (k : SOk X.K X.mg B F W P D) :
    ∀ (σ' : St) (y : XN) (cls : Value) (dd : Option Addr) (H' F' : Hp) (Γ' : G), wClauses i P cs y Γ' → Same F F' → EnvR X.K B F' H' σ' Γ' → XR X.K X.mg F' H' y cls dd → DX.wManyAs X.K i W D l cls dd σ' H' := by
  induction h with
  | nil => exact fun σ' y cls dd H' F' Γ' hx s E' xr => k.xc σ' y cls dd H' F' Γ' hx s E' xr
  | @cons x C e np pos' rp tags val hds cs l hc ct hv r ih =>
    intro σ' y cls dd H' F' Γ' hx s E' xr
    have hx' : match tags.lookup y.tag with
      | some true => stOk Γ' i ∧ ∃ z, val y = some z ∧ P.rt (.d z) (Γ'.set i .no)
      | some false => wClauses i P cs y Γ'
      | none => False := hx
    cases q : tags.lookup y.tag with
    | none => rw [q] at hx'; exact hx'.elim
    | some b =>
      rw [q] at hx'
      obtain ⟨D', m1, m2, m3⟩ := ct _ _ q
      have ec : cls = .ref D' := by
        have := xr.1
        rw [m1] at this
        exact (Option.some.inj this).symm
      subst ec
      refine ⟨b, m2, fun hb a ha => ?_, fun hb => ?_⟩
      · subst hb
        obtain ⟨ok, z, hz, hr⟩ := hx'
        have := m3 rfl
        subst this
        have hl := (stOk_lt ok).1
        refine ⟨B, F', Γ'.set i .no, y, z, E'.setNo _ ok, by simp [E'.len, hl], rfl, xr, hz, fun v F'' H'' s2 E2 r2 => ?_⟩
        exact k.rt v (.d z) _ H'' F'' _ (s.trans s2) E2 r2 hr
      · subst hb
        exact ih σ' y _ dd H' F' Γ' hx' s E' xr
theorem ds_tryM {X : Cx} {W : WX} {n : Str} {i : Nat} {body : List Stmt} {h₀ : ExceptHandler} {hds : List ExceptHandler} {pos : Pos} {wb : WS} {cs : List Clause} {l : List (Value × (Addr → Value → Option Addr → TS))} (hs : X.stack = X.env :: X.outer) (hf : X.env.frame = some X.env.locals) (hN : X.N.Nodup) (tk : Takes X W)
    (hc : ClOk X i n (h₀ :: hds) cs l) (hb : ∀ (W : WX) (pn : List (Addr × Obj)) (xe : Value → Shared → Prop), Takes (X.tr pn xe) W → DSs (X.tr pn xe) W body wb)
    (hi : X.N[i]? = some n := by rfl) (hln : X.env.kindOf n = some .local := by rfl) :
    DS X W (.Try body (h₀ :: hds) [] [] pos) (wTryM i wb cs) := by
  refine ds_of (DX.try_named (tb := fun W => liftS X.K X.mg W wb) hs hf hN hi hln tk (fun W pn xe tk' _ => (hb W pn xe tk').pss) hc.named) fun D σ H ⟨B, F, Γ, P, E, hw, k⟩ => ?_
  exact ⟨B, F, Γ, _, E, hw, k.nx, k.rt, k.bk, k.ct, fun σ' y cls dd H' F' Γ' hx s E' xr => hc.go k σ' y cls dd H' F' Γ' hx s E' xr⟩
theorem cl_cons {X : Cx} {i : Nat} {n : Str} {x : Str} {fs : List Str} {e : Expr} {np pos' rp : Pos} {tags : List (Str × Bool)} {val : XN → Option PyData} {hds : List ExceptHandler} {cs : List Clause} (T : Ct X.K X.mg x fs tags) (hv : ∀ C, DX.ErrC X.K C fs → Sv X i C e val)
    (r : ∃ l, ClOk X i n hds cs l) (hg : Gl X x := by rfl) (hdb : (x == ("__debug__" : Str)) = false := by decide) :
    ∃ l, ClOk X i n (.ExceptHandler (some (.Name x np)) (some n) [.Return (some e) rp] pos' :: hds) ((tags, val) :: cs) l := by
  obtain ⟨C, h1, h2, h3⟩ := T.ex
  obtain ⟨l, r⟩ := r
  exact ⟨_, .cons ⟨hg, hdb, .inl h1⟩ h3 (hv C h2) r⟩
theorem cl_nil {X : Cx} {i : Nat} {n : Str} : ∃ l, ClOk X i n [] [] l := ⟨_, .nil⟩
theorem ds_tryN {X : Cx} {W : WX} {n : Str} {i : Nat} {body : List Stmt} {h₀ : ExceptHandler} {hds : List ExceptHandler} {pos : Pos} {wb : WS} {cs : List Clause} (hs : X.stack = X.env :: X.outer) (hf : X.env.frame = some X.env.locals) (hN : X.N.Nodup) (tk : Takes X W)
    (hc : ∃ l, ClOk X i n (h₀ :: hds) cs l) (hb : ∀ (W : WX) (pn : List (Addr × Obj)) (xe : Value → Shared → Prop), Takes (X.tr pn xe) W → DSs (X.tr pn xe) W body wb)
    (hi : X.N[i]? = some n := by rfl) (hln : X.env.kindOf n = some .local := by rfl) :
    DS X W (.Try body (h₀ :: hds) [] [] pos) (wTryM i wb cs) := by
  obtain ⟨l, hc⟩ := hc
  exact ds_tryM hs hf hN tk hc hb hi hln
end DL

namespace DL
open PySem L2
/-! ### s.rpartition(t) -/
theorem mt_rpartition {X : Cx} : MtR X "str.rpartition" (fun x xs H Q => ∃ a b, x = .str a ∧ xs = [.str b] ∧ (b.length == 0) = false ∧ a.length ≤ sizeLine ∧
    ∀ p, H p = none → Q (.ref p) (upd H p (.tup [.str (Txt.rpartition a b).1, .str (Txt.rpartition a b).2.1, .str (Txt.rpartition a b).2.2]))) := by
  intro pins s σ H x xs v us Q I rx rs h
  obtain ⟨a, b, ea, eb, hb, hz, h⟩ := h
  subst ea
  subst eb
  obtain ⟨t, rfl⟩ := rx
  cases rs with
  | cons rb rn =>
    cases rn
    obtain ⟨u, rfl⟩ := rb
    refine call_meets F.slot_str_rpartition (typeIs_str _ _ _) F.entry_str_rpartition (F.args_str_rpartition_2 _ _) (meets_str_rpartition a b t u hb hz) ?_
    unfold Txt.rpartition at h
    revert h
    cases Builtin.Str.lastOccurrence a b 0 a.length with
    | none => exact fun h => laid_parts I h
    | some i => exact fun h => laid_parts I h
def fRpart : FP := fun x y Q => match x, y with
  | .str a, .str b => (b.length == 0) = false ∧ a.length ≤ sizeLine ∧ Q (.d (.tuple [.str (Txt.rpartition a b).1, .str (Txt.rpartition a b).2.1, .str (Txt.rpartition a b).2.2]))
  | _, _ => False
theorem F_rpart (Q : R → Prop) (a b : Str) : fRpart (.str a) (.str b) Q = ((b.length == 0) = false ∧ a.length ≤ sizeLine ∧ Q (.d (.tuple [.str (Txt.rpartition a b).1, .str (Txt.rpartition a b).2.1, .str (Txt.rpartition a b).2.2]))) := rfl
theorem p_rpart {K : PySem.W.Frag} : P2 K (fun x y H Q => ∃ a b, x = .str a ∧ [y] = [V.str b] ∧ (b.length == 0) = false ∧ a.length ≤ sizeLine ∧
    ∀ p, H p = none → Q (.ref p) (upd H p (.tup [.str (Txt.rpartition a b).1, .str (Txt.rpartition a b).2.1, .str (Txt.rpartition a b).2.2]))) fRpart := fun B F H σ Γ u v x y Q Kn E hx hy hf k => by
  unfold fRpart at hf
  split at hf
  · rename_i a b
    refine ⟨a, b, hx, by rw [show v = .str b from hy], hf.1, hf.2.1, fun p hp => ?_⟩
    exact k _ (.d (.tuple _)) _ _ (same_upd (none_back E.ex hp)) (E.lay hp) (rep_tup (none_back E.ex hp) (reps_strs [(Txt.rpartition a b).1, (Txt.rpartition a b).2.1, (Txt.rpartition a b).2.2])) hf.2.2
  · exact hf.elim
end DL

namespace DL
open PySem L2
open PySem.StrLaws PySem.Builtin.Str
/-! ### split, rpartition at one sign -/
/-- parts between the signs c -/
def splC (c : Nat) : List Nat → List (List Nat)
  | [] => [[]]
  | a :: l => if a = c then [] :: splC c l else match splC c l with
    | p :: ps => (a :: p) :: ps
    | [] => [[a]]
theorem splC_ne (c : Nat) : ∀ l, ∃ p ps, splC c l = p :: ps
  | [] => ⟨_, _, rfl⟩
  | a :: l => by
    obtain ⟨p, ps, e⟩ := splC_ne c l
    unfold splC
    split
    · exact ⟨_, _, rfl⟩
    · rw [e]; exact ⟨_, _, rfl⟩
theorem splC_eq (c : Nat) (l : List Nat) : splC c (c :: l) = [] :: splC c l := by
  rw [splC]
  exact if_pos rfl
theorem splC_cons {a c : Nat} (h : ¬ a = c) {l p : List Nat} {ps : List (List Nat)} (e : splC c l = p :: ps) : splC c (a :: l) = (a :: p) :: ps := by
  rw [splC, if_neg h, e]
theorem splC_no {c : Nat} : ∀ {l : List Nat}, c ∉ l → splC c l = [l]
  | [], _ => rfl
  | a :: l, h => by
    simp only [List.mem_cons, not_or] at h
    exact splC_cons (fun z => h.1 z.symm) (splC_no h.2)
theorem splC_app {c : Nat} : ∀ (a b : List Nat), c ∉ a → splC c (a ++ c :: b) = a :: splC c b
  | [], b, _ => by simp [splC]
  | x :: a, b, h => by
    simp only [List.mem_cons, not_or] at h
    exact splC_cons (fun z => h.1 z.symm) (splC_app a b h.2)
/-- with the last part told -/
theorem splC_last {c : Nat} : ∀ (a b : List Nat), c ∉ b → splC c (a ++ c :: b) = splC c a ++ [b]
  | [], b, h => by simp [splC, splC_no h]
  | x :: a, b, h => by
    rw [List.cons_append]
    have ih := splC_last a b h
    obtain ⟨p, ps, e⟩ := splC_ne c a
    by_cases hx : x = c
    · subst hx
      rw [splC_eq, splC_eq, ih]
      rfl
    · rw [splC_cons hx (ih.trans (by rw [e]; rfl)), splC_cons hx e]
      rfl
theorem splC_mem {c : Nat} : ∀ {l p : List Nat}, p ∈ splC c l → c ∉ p
  | [], p, h => by simp [splC] at h; rw [h]; simp
  | a :: l, p, h => by
    obtain ⟨q, ps, e⟩ := splC_ne c l
    have ih := fun p => splC_mem (c := c) (l := l) (p := p)
    unfold splC at h
    rw [e] at h ih
    split at h
    · rcases List.mem_cons.mp h with rfl | h
      · simp
      · exact ih p h
    · rename_i hn
      rcases List.mem_cons.mp h with rfl | h
      · simp only [List.mem_cons, not_or]
        exact ⟨fun z => hn z.symm, ih q (List.mem_cons_self ..)⟩
      · exact ih p (List.mem_cons_of_mem _ h)
theorem occ_one_aux (x : Str) (c : Nat) (lim : Nat) : ∀ (m k : Nat) (st : Array Nat × Nat), st.snd ≤ k → st.fst.size + m ≤ lim →
    (forIn (List.range' k m) st (occBody x ⟨#[c]⟩ x.length lim)).run.fst.toList = st.fst.toList ++ (List.range' k m).filter fun i => decide (x.cps.toList[i]? = some c)
  | 0, k, st, _, _ => by simp
  | m + 1, k, st, h1, h2 => by
    rw [List.range'_succ, List.forIn_cons]
    unfold occBody
    by_cases hc : x.cps.toList[k]? = some c
    · obtain ⟨b1, b2⟩ := (subAt_one x c k).mpr hc
      rw [if_pos ⟨⟨⟨by omega, h1⟩, b1⟩, b2⟩, List.filter_cons_of_pos (by simpa using hc)]
      refine (occ_one_aux x c lim m (k + 1) _ (Nat.le_refl _) (by simp only [Array.size_push]; omega)).trans ?_
      rw [Array.toList_push, List.append_assoc]
      rfl
    · rw [if_neg (fun z => hc ((subAt_one x c k).mp ⟨z.1.2, z.2⟩)), List.filter_cons_of_neg (by simpa using hc)]
      exact occ_one_aux x c lim m (k + 1) _ (by show st.snd ≤ k + 1; omega) (by show st.fst.size + m ≤ lim; omega)
theorem occ_one (x : Str) (c : Nat) : occurrences x ⟨#[c]⟩ 0 x.length (x.length + 1) = (List.range' 0 (x.length + 1)).filter fun i => decide (x.cps.toList[i]? = some c) := by
  rw [occ_eq, occ_one_aux x c _ _ 0 (#[], 0) (Nat.le_refl _) (by simp)]
  rfl
theorem strSub_l (x : Str) (i j : Nat) : (strSub x i j).cps.toList = (x.cps.toList.drop i).take (j - i) := strSub_toList x i j
theorem parts_one (x : Str) (c : Nat) : ∀ (m a : Nat), a + m = x.length → (partsFrom x 1 a ((List.range' a (m + 1)).filter fun i => decide (x.cps.toList[i]? = some c))).map (fun s => s.cps.toList) = splC c (x.cps.toList.drop a)
  | 0, a, h => by
    have hn : x.cps.toList.length = x.length := by simp [Str.length]
    have e1 : x.cps.toList[a]? = none := by rw [List.getElem?_eq_none_iff]; omega
    have e2 : x.cps.toList.drop a = [] := List.drop_eq_nil_of_le (by omega)
    rw [List.range'_succ, List.filter_cons_of_neg (by rw [e1]; simp), e2]
    simp [partsFrom, splC, strSub_l, e2]
  | m + 1, a, h => by
    have hn : x.cps.toList.length = x.length := by simp [Str.length]
    have ha : a < x.cps.toList.length := by omega
    have ih := parts_one x c m (a + 1) (by omega)
    have ed : x.cps.toList.drop a = x.cps.toList[a] :: x.cps.toList.drop (a + 1) := List.drop_eq_getElem_cons ha
    have eg : x.cps.toList[a]? = some x.cps.toList[a] := List.getElem?_eq_getElem ha
    rw [List.range'_succ]
    by_cases hc : x.cps.toList[a] = c
    · rw [List.filter_cons_of_pos (by rw [eg, hc]; simp), ed]
      unfold splC
      rw [if_pos hc, ← ih]
      simp [partsFrom, strSub_l]
    · rw [List.filter_cons_of_neg (by rw [eg]; simpa using hc), ed]
      unfold splC
      rw [if_neg hc, ← ih]
      have hge : ∀ i ∈ (List.range' (a + 1) (m + 1)).filter fun i => decide (x.cps.toList[i]? = some c), a + 1 ≤ i := fun i hi => by
        have := (List.mem_filter.mp hi).1
        simp [List.mem_range'] at this
        omega
      revert hge
      generalize (List.range' (a + 1) (m + 1)).filter (fun i => decide (x.cps.toList[i]? = some c)) = cuts
      intro hge
      cases cuts with
      | nil =>
        simp only [partsFrom, List.map_cons, List.map_nil, strSub_l]
        rw [ed, show x.length - a = (x.length - (a + 1)) + 1 by omega, List.take_succ_cons]
      | cons k r =>
        have hk := hge k (List.mem_cons_self ..)
        simp only [partsFrom, List.map_cons, strSub_l]
        rw [ed, show k - a = (k - (a + 1)) + 1 by omega, List.take_succ_cons]
theorem split_one (x : Str) (c : Nat) (hc : c < 256) : Txt.split x ⟨#[c]⟩ = (splC c x.cps.toList).map ofL := by
  have hn : x.cps.toList.length = x.length := by simp [Str.length]
  have back : ∀ l : List Str, l = (l.map fun s => s.cps.toList).map ofL := fun l => by
    rw [List.map_map]
    have : (ofL ∘ fun s : Str => s.cps.toList) = id := by funext s; exact ofL_of s
    rw [this, List.map_id]
  have one : c ∉ x.cps.toList → [x] = (splC c x.cps.toList).map ofL := fun h => by rw [splC_no h]; simp [ofL_of]
  unfold Txt.split
  split
  · rename_i h
    refine one fun hm => ?_
    rw [Bool.or_eq_true, decide_eq_true_eq, decide_eq_true_eq] at h
    rcases h with h | h
    · have : (⟨#[c]⟩ : Str).length = 1 := rfl
      have h0 : x.cps.toList = [] := List.length_eq_zero_iff.mp (by omega)
      rw [h0] at hm
      cases hm
    · have k1 : PySem.Builtin.Str.strKind ⟨#[c]⟩ = 1 := by simp [PySem.Builtin.Str.strKind, hc]
      have k2 : 1 ≤ PySem.Builtin.Str.strKind x := by unfold PySem.Builtin.Str.strKind; split <;> first | omega | (split <;> omega)
      omega
  · split
    · rename_i h
      refine one fun hm => ?_
      rw [occ_one] at h
      obtain ⟨i, hi⟩ := List.mem_iff_getElem?.mp hm
      have hlt := (List.getElem?_eq_some_iff.mp hi).1
      have : i ∈ (List.range' 0 (x.length + 1)).filter fun i => decide (x.cps.toList[i]? = some c) := List.mem_filter.mpr ⟨by simp [List.mem_range']; omega, by simpa using hi⟩
      rw [List.isEmpty_iff] at h
      rw [h] at this
      cases this
    · rw [partsBetween_eq, occ_one]
      have := parts_one x c x.length 0 (by omega)
      rw [List.drop_zero] at this
      rw [← this]
      exact back _
theorem At_one (x : Str) (c i : Nat) : At x ⟨#[c]⟩ x.length i ↔ x.cps.toList[i]? = some c := subAt_one x c i
/-- s.rpartition(c): the last part, what stands ahead of it -/
theorem rpart_one (x : Str) (c : Nat) : (c ∉ x.cps.toList ∧ Txt.rpartition x ⟨#[c]⟩ = (Str.empty, Str.empty, x)) ∨
    ∃ a b : List Nat, x.cps.toList = a ++ c :: b ∧ c ∉ b ∧ Txt.rpartition x ⟨#[c]⟩ = (ofL a, ⟨#[c]⟩, ofL b) := by
  have hn : x.cps.toList.length = x.length := by simp [Str.length]
  unfold Txt.rpartition
  rcases last_spec x ⟨#[c]⟩ with ⟨e, h⟩ | ⟨i, e, h1, h2⟩
  · rw [e]
    refine .inl ⟨fun hm => ?_, rfl⟩
    obtain ⟨i, hi⟩ := List.mem_iff_getElem?.mp hm
    exact h i ((At_one x c i).mpr hi)
  · rw [e]
    have hi := (At_one x c i).mp h1
    obtain ⟨hlt, hg⟩ := List.getElem?_eq_some_iff.mp hi
    refine .inr ⟨x.cps.toList.take i, x.cps.toList.drop (i + 1), ?_, fun hm => ?_, ?_⟩
    · rw [← hg, ← List.drop_eq_getElem_cons hlt, List.take_append_drop]
    · obtain ⟨k, hk⟩ := List.mem_iff_getElem?.mp hm
      rw [List.getElem?_drop] at hk
      exact h2 (i + 1 + k) (by omega) ((At_one x c _).mpr hk)
    · have e1 : strSub x 0 i = ofL (x.cps.toList.take i) := str_ext (by rw [strSub_l, ofL_l]; simp)
      have e2 : strSub x (i + (⟨#[c]⟩ : Str).length) x.length = ofL (x.cps.toList.drop (i + 1)) := str_ext (by
        rw [strSub_l, ofL_l]
        show (x.cps.toList.drop (i + 1)).take (x.length - (i + 1)) = _
        exact List.take_of_length_le (by simp only [List.length_drop]; omega))
      show (strSub x 0 i, (⟨#[c]⟩ : Str), strSub x (i + (⟨#[c]⟩ : Str).length) x.length) = _
      rw [e1, e2]
end DL

/-! sum(lists, []) -/
namespace DSum
open PySem PyProof.Rows
section
variable {prog : Program} {w : World} {A : Around} {E : Value → Shared → Prop} {s : Shared}
abbrev lstO (its : Array Value) : Obj := { cls := .type "list", data := .seq its 0 }
/-- two lists joined -/
theorem add_lists {a b : Addr} {xs ys : Array Value} {Q : Value → Shared → Prop} (ha : s.heap.IsList a xs) (hb : s.heap.IsList b ys) (hz : xs.size + ys.size ≤ sizeLine)
    (h : Q (.ref s.heap.objs.size) { s with heap := s.heap.push (seqObj "list" (xs ++ ys) 0) }) : wpAny (model prog w) A (binaryOp .Add (.ref a) (.ref b)) Q E s := by
  obtain ⟨⟨c1, d1, dt1, sl1⟩, e1, q1, n1, p1⟩ := id ha
  obtain ⟨⟨c2, d2, dt2, sl2⟩, e2, q2, n2, p2⟩ := id hb
  simp only at q1 p1 q2 p2
  subst q1 p1 q2 p2
  refine concat_meets ⟨_, e1, rfl⟩ ⟨_, e2, rfl⟩ noFill_list_add seq_list_add PySem.F.slot_list_add PySem.F.entry_list_add (PySem.F.args_list_add_2 _ _) (list_addW a b xs ys n1 n2 _ _ sl1 sl2 hz) ⟨e1, e2, ?_⟩
  exact h
end
section
variable {prog : Program} {w : World} {A : Around} {R : Result → Shared → Prop}
def cat : List (Array Value) → Array Value
  | [] => #[]
  | x :: l => x ++ cat l
/-- the loop: S holds the list so far, the list l at ax gives lists -/
theorem sum_loopL {I ax : Addr} {items : Array Value} (hh : A.handled = none) (hne : ax ≠ I) (S : Addr) (hSI : S ≠ I) (hSa : S ≠ ax) (xss : Nat → Array Value) (m : Nat) :
    ∀ (k i : Nat) (s : Shared) (acc : Addr) (ys : Array Value) (c : Nat), items.size - i = k → i ≤ items.size → s.heap.IsListIter I ax i → s.heap.IsList ax items → acc ≠ I → acc ≠ S → s.heap.IsList acc ys →
      s.heap.get? S = some { cls := .type "list", dict := none, data := .seq #[.ref acc] c, slots := #[] } →
      (∀ j, i ≤ j → j < items.size → ∃ a, items[j]? = some (.ref a) ∧ a ≠ I ∧ a ≠ S ∧ s.heap.IsList a (xss j)) →
      (∀ j, i ≤ j → j ≤ items.size → (ys ++ cat ((List.range' i (j - i)).map xss)).size ≤ sizeLine) →
      (∀ s' p, (∀ b o, b ≠ I → b ≠ S → s.heap.get? b = some o → s'.heap.get? b = some o) → s'.gens = s.gens → s'.os = s.os → s'.drawn = s.drawn → (k = 0 → p = acc) → (0 < k → s.heap.objs.size ≤ p) →
        s'.heap.IsList p (ys ++ cat ((List.range' i k).map xss)) → (0 < k → s'.heap.get? p = some (seqObj "list" (ys ++ cat ((List.range' i k).map xss)) 0)) → R (.ok (.ret (.ref p))) s') →
      codeAny (model prog w) A (.builtin "sum.loop" ⟨[.ref I, .ref S, rawInt 2, rawInt 0], []⟩) R s := by
  intro k
  induction k with
  | zero =>
    intro i s acc ys c hk hi hit hl haI haS hacc hS hex hz hR
    have hin : i = items.size := by omega
    subst hin
    refine codeAny_builtin F.entry_sum_loop ?_
    rw [Around.under_plainId F.plain_sum_loop _]
    show wpAny _ A.in1 (seqItems? (.ref S) >>= _) _ _ s
    refine wpAny_bind (wpAny_seqItems hS rfl ?_)
    show wpAny _ A.in1 (tryCatch (pyNext (.ref I)) _ >>= _) _ _ s
    refine wpAny_bind (wpAny_tryCatch (wpAny_pyNext_list_end hh hit hl (by simp) fun h' hm => ?_))
    refine wpAny_pure (hR _ acc (fun b o hbI _ e => hm b o hbI e) rfl rfl rfl (fun _ => rfl) (fun z => by cases z) ?_ (fun z => by cases z))
    obtain ⟨o, ho, r⟩ := hacc
    exact ⟨o, hm acc o haI ho, by simpa [cat] using r⟩
  | succ k ih =>
    intro i s acc ys c hk hi hit hl haI haS hacc hS hex hz hR
    have hlt : i < items.size := by omega
    refine codeAny_builtin F.entry_sum_loop ?_
    rw [Around.under_plainId F.plain_sum_loop _]
    show wpAny _ A.in1 (seqItems? (.ref S) >>= _) _ _ s
    refine wpAny_bind (wpAny_seqItems hS rfl ?_)
    show wpAny _ A.in1 (tryCatch (pyNext (.ref I)) _ >>= _) _ _ s
    obtain ⟨a, ha, hal, haS', hla⟩ := hex i (Nat.le_refl _) hlt
    refine wpAny_bind (wpAny_tryCatch (wpAny_pyNext_list_item hit hl ha fun h' hit' hm => ?_))
    obtain ⟨s', hs'⟩ : ∃ s' : Shared, s' = { s with heap := h' } := ⟨_, rfl⟩
    have keep : ∀ b o, b ≠ I → s.heap.get? b = some o → s'.heap.get? b = some o := fun b o hb e => by rw [hs']; exact hm.extBut b o hb e
    have hst' : s'.heap.IsListIter I ax (i + 1) ∧ s'.heap.IsList ax items := ⟨by rw [hs']; exact hit', by obtain ⟨o, e, r⟩ := hl; exact ⟨o, keep ax o hne e, r⟩⟩
    have hgens : s'.gens = s.gens ∧ s'.os = s.os ∧ s'.drawn = s.drawn := by rw [hs']; exact ⟨rfl, rfl, rfl⟩
    have hsize : s.heap.objs.size ≤ s'.heap.objs.size := by rw [hs']; exact Nat.le_of_eq hm.1.symm
    rw [← hs']
    have keepL : ∀ b zs, b ≠ I → s.heap.IsList b zs → s'.heap.IsList b zs := fun b zs hb ⟨o, e, r⟩ => ⟨o, keep b o hb e, r⟩
    have hS' := keep S _ hSI hS
    show wpAny _ A.in1 ((holding [Value.ref a] (binaryOp .Add (.ref acc) (.ref a))).attempt >>= _) _ _ _
    have hz1 := hz (i + 1) (by omega) (by omega)
    have e1 : (ys ++ cat ((List.range' i (i + 1 - i)).map xss)) = ys ++ xss i := by
      rw [show i + 1 - i = 1 by omega]
      simp [List.range'_succ, cat]
    rw [e1, Array.size_append] at hz1
    refine wpAny_bind (wpAny_attempt (wpAny_holding (add_lists (keepL acc ys haI hacc) (keepL a _ hal hla) hz1 ?_)))
    have hp : ∀ b u, s'.heap.get? b = some u → (s'.heap.push (seqObj "list" (ys ++ xss i) 0)).get? b = some u := fun b u e => Heap.get?_push_of_some _ e
    have hSp := hp S _ hS'
    show wpAny _ A.in1 (updateSeq S (fun _ => #[.ref s'.heap.objs.size]) >>= _) _ _ _
    refine wpAny_bind (wpAny_updateSeq hSp rfl ?_)
    have hS₂ := Heap.get?_update_self (Obj.mapSeq fun _ => #[Value.ref s'.heap.objs.size]) hSp rfl
    refine wpAny_bind (wpAny_letGo ?_)
    have hSlt : S < s'.heap.objs.size := Heap.lt_size hS'
    have hIlt : I < s'.heap.objs.size := by obtain ⟨_, e, _⟩ := hst'.1; exact Heap.lt_size e
    have gk : ∀ b u, b ≠ S → (s'.heap.push (seqObj "list" (ys ++ xss i) 0)).get? b = some u →
        (((s'.heap.push (seqObj "list" (ys ++ xss i) 0)).update S (Obj.mapSeq fun _ => #[Value.ref s'.heap.objs.size])).update S (Obj.mapSeq fun _ => #[Value.ref s'.heap.objs.size])).get? b = some u := fun b u hb e =>
      (Heap.get?_update_other _ _ (Ne.symm hb)).trans ((Heap.get?_update_other _ _ (Ne.symm hb)).trans e)
    refine wpAny_bind (wpAny_updateSeq hS₂ rfl (wpAny_pure ⟨plainId_quiet F.plain_sum_loop _, ih (i + 1) _ s'.heap.objs.size (ys ++ xss i) _ (by omega) (by omega) ?_ ?_ (Nat.ne_of_gt hIlt) (Nat.ne_of_gt hSlt) ?_ (Heap.get?_update_self (Obj.mapSeq fun _ => #[Value.ref s'.heap.objs.size]) hS₂ rfl) ?_ ?_ ?_⟩))
    · exact hst'.1.at fun o e => gk I o (Ne.symm hSI) (hp I o e)
    · exact hst'.2.at fun o e => gk ax o (Ne.symm hSa) (hp ax o e)
    · exact ⟨_, gk _ _ (Nat.ne_of_gt hSlt) (Heap.get?_push_size _ rfl), rfl, _, rfl⟩
    · intro j hj hj2
      obtain ⟨b, h1, h2, h3, h4⟩ := hex j (by omega) hj2
      refine ⟨b, h1, h2, h3, ?_⟩
      obtain ⟨o, e, r⟩ := keepL b _ h2 h4
      exact ⟨o, gk b o h3 (hp b o e), r⟩
    · intro j hj hj2
      have := hz j (by omega) hj2
      rw [show j - i = (j - (i + 1)) + 1 by omega, List.range'_succ] at this
      simpa only [List.map_cons, cat, Array.append_assoc] using this
    · intro s2 p h1 h2 h3 h4 h5 h6 h7 h8
      have sz : (((s'.heap.push (seqObj "list" (ys ++ xss i) 0)).update S (Obj.mapSeq fun _ => #[Value.ref s'.heap.objs.size])).update S (Obj.mapSeq fun _ => #[Value.ref s'.heap.objs.size])).objs.size = s'.heap.objs.size + 1 := by
        rw [Heap.size_update, Heap.size_update, size_push']
      have le := hsize
      refine hR s2 p (fun b o hb1 hb2 e => h1 b o hb1 hb2 (gk b o hb2 (hp b o (keep b o hb1 e)))) (h2.trans hgens.1) (h3.trans hgens.2.1) (h4.trans hgens.2.2) (fun z => by cases z) (fun _ => ?_) ?_ (fun _ => ?_)
      · by_cases hk0 : k = 0
        · rw [h5 hk0]; exact le
        · have := h6 (by omega)
          have e2 : s'.heap.objs.size + 1 ≤ p := by rw [← sz]; exact this
          omega
      · rw [List.range'_succ]
        simpa only [List.map_cons, cat, Array.append_assoc] using h7
      · rw [List.range'_succ]
        by_cases hk0 : k = 0
        · subst hk0
          rw [h5 rfl]
          have := h1 _ _ (Nat.ne_of_gt hIlt) (Nat.ne_of_gt hSlt) (gk _ _ (Nat.ne_of_gt hSlt) (Heap.get?_push_size _ rfl))
          simpa [cat] using this
        · simpa only [List.map_cons, cat, Array.append_assoc] using h8 (by omega)
end
theorem args_sum2 (a b : Value) : argsOk "sum" ⟨[a, b], []⟩ := by unfold argsOk; kernel_rfl
section
variable {prog : Program} {w : World} {A : Around} {E : Value → Shared → Prop} {s : Shared}
theorem call_sumL {x b0 : Addr} {items : Array Value} {Q : Value → Shared → Prop} (hh : A.handled = none) (hl : s.heap.IsList x items) (hb : s.heap.IsList b0 #[]) (xss : Nat → Array Value)
    (hex : ∀ j, j < items.size → ∃ a, items[j]? = some (.ref a) ∧ s.heap.IsList a (xss j)) (hn : 0 < items.size) (hz : ∀ j, j ≤ items.size → (cat ((List.range' 0 j).map xss)).size ≤ sizeLine)
    (h : ∀ s' p, (∀ b o, s.heap.get? b = some o → s'.heap.get? b = some o) → s'.gens = s.gens → s'.os = s.os → s.heap.objs.size ≤ p → s'.heap.get? p = some (seqObj "list" (cat ((List.range' 0 items.size).map xss)) 0) → Q (.ref p) s') :
    wpAny (model prog w) A (call (.builtin "sum") [.ref x, .ref b0]) Q E s := by
  have lt : ∀ {a : Addr} {zs : Array Value}, s.heap.IsList a zs → a < s.heap.objs.size := fun ⟨_, e, _⟩ => Heap.lt_size e
  refine call_function_tree F.kind_sum F.plain_sum F.entry_sum (args_sum2 _ _) ?_
  unfold Builtin.«sum»
  simp only [List.length_cons, List.length_nil]
  rw [if_neg (by decide)]
  refine wpAny_bind (wpAny_of_eq (show Builtin.Builtins.bindParams "sum" ["start"] 0 ⟨[Value.ref b0], []⟩ = pure [some (Value.ref b0)] from rfl) ?_)
  refine wpAny_bind (wpAny_pyIter_list hl ?_)
  refine wpAny_bind (wpAny_pure ?_)
  have hb1 := hb.push { cls := .type "list_iterator", data := .fields #[.ref x, .int 0 0] }
  have hT : ({ s with heap := s.heap.push { cls := .type "list_iterator", data := .fields #[.ref x, .int 0 0] } } : Shared).TypeIs (.ref b0) "list" := by
    obtain ⟨o, e, c, _⟩ := hb1
    exact ⟨o, e, c⟩
  simp only [List.forIn_cons, List.forIn_nil]
  refine wpAny_bind (wpAny_bind (wpAny_bind (wpAny_isInstance (T := "list") (b := false) hT F.sub_list_str ?_)))
  simp only [Bool.false_eq_true, if_false]
  refine wpAny_pure (wpAny_bind (wpAny_bind (wpAny_isInstance (T := "list") (b := false) hT F.sub_list_bytes ?_)))
  simp only [Bool.false_eq_true, if_false]
  refine wpAny_pure (wpAny_bind (wpAny_bind (wpAny_isInstance (T := "list") (b := false) hT F.sub_list_bytearray ?_)))
  simp only [Bool.false_eq_true, if_false]
  refine wpAny_pure (wpAny_pure ?_)
  refine wpAny_bind (wpAny_newObj_type ?_)
  have k : ∀ b o, s.heap.get? b = some o → ((s.heap.push { cls := .type "list_iterator", data := .fields #[.ref x, .int 0 0] }).push { cls := .type "list", data := .seq #[.ref b0] 0 }).get? b = some o := fun b o e => Heap.get?_push_of_some _ (Heap.get?_push_of_some _ e)
  have kl : ∀ {a : Addr} {zs : Array Value}, s.heap.IsList a zs → ((s.heap.push { cls := .type "list_iterator", data := .fields #[.ref x, .int 0 0] }).push { cls := .type "list", data := .seq #[.ref b0] 0 }).IsList a zs := fun ⟨o, e, r⟩ => ⟨o, k _ o e, r⟩
  have s1 : (s.heap.push { cls := .type "list_iterator", data := .fields #[.ref x, .int 0 0] }).objs.size = s.heap.objs.size + 1 := size_push' _ _
  refine wpAny_pure ⟨plainId_quiet F.plain_sum_loop _, ?_⟩
  show codeAny _ A (.builtin "sum.loop" ⟨[.ref s.heap.objs.size, .ref (s.heap.push { cls := .type "list_iterator", data := .fields #[.ref x, .int 0 0] }).objs.size, rawInt 2, rawInt 0], []⟩) _ _
  rw [s1]
  refine sum_loopL hh (Nat.ne_of_lt (lt hl)) (s.heap.objs.size + 1) (Nat.succ_ne_self _) (Nat.ne_of_gt (Nat.lt_succ_of_lt (lt hl))) xss 0 items.size 0 _ b0 #[] 0 (by omega) (by omega) ?_ (kl hl) (Nat.ne_of_lt (lt hb)) (Nat.ne_of_lt (Nat.lt_succ_of_lt (lt hb))) (kl hb) ?_ ?_ ?_ ?_
  · exact ⟨_, Heap.get?_push_of_some _ (Heap.get?_push_size _ rfl), rfl, rfl⟩
  · rw [← s1]; exact Heap.get?_push_size _ rfl
  · intro j _ hj
    obtain ⟨a, h1, h2⟩ := hex j hj
    exact ⟨a, h1, Nat.ne_of_lt (lt h2), Nat.ne_of_lt (Nat.lt_succ_of_lt (lt h2)), kl h2⟩
  · intro j _ hj
    simpa using hz j hj
  · intro s' p h1 h2 h3 h4 h5 h6 h7 h8
    refine h s' p (fun b o e => h1 b o (Nat.ne_of_lt (Heap.lt_size e)) (Nat.ne_of_lt (Nat.lt_succ_of_lt (Heap.lt_size e))) (k b o e)) h2 h3 ?_ (by simpa using h8 hn)
    have := h6 hn
    have s2 : ((s.heap.push { cls := .type "list_iterator", data := .fields #[.ref x, .int 0 0] }).push { cls := .type "list", data := .seq #[.ref b0] 0 }).objs.size = s.heap.objs.size + 2 := by rw [size_push', s1]
    have e2 : s.heap.objs.size + 2 ≤ p := by rw [← s2]; exact this
    exact Nat.le_trans (Nat.le_trans (Nat.le_succ _) (Nat.le_succ _)) e2
end
end DSum
namespace DL
open PySem L2 PySem.Spec PyProof.Rows
theorem vals_refs : ∀ {as : List Addr} {us : List Value}, Vals (as.map V.ref) us → us = as.map Value.ref
  | [], us, h => by cases h; rfl
  | a :: as, us, h => by
    rw [List.map_cons] at h
    cases h with
    | cons r t => cases r; rw [vals_refs t]; rfl
theorem cat_vals (K : PySem.W.Frag) (f : Nat → Array Value) : ∀ (xss : List (List V)) (i : Nat), (∀ j xs, xss[j]? = some xs → Vals xs (f (i + j)).toList) → Vals xss.flatten (DSum.cat ((List.range' i xss.length).map f)).toList
  | [], _, _ => .nil
  | xs :: r, i, h => by
    rw [List.length_cons, List.range'_succ, List.map_cons]
    show Vals (xs ++ r.flatten) (f i ++ DSum.cat ((List.range' (i + 1) r.length).map f)).toList
    rw [Array.toList_append]
    exact (h 0 xs rfl).append (cat_vals K f r (i + 1) fun j ys e => by
      have := h (j + 1) ys (by simpa using e)
      rwa [show i + (j + 1) = i + 1 + j by omega] at this)
theorem cat_size (f : Nat → Array Value) : ∀ (xss : List (List V)) (i k : Nat), (∀ j xs, xss[j]? = some xs → (f (i + j)).size = xs.length) → k ≤ xss.length → (DSum.cat ((List.range' i k).map f)).size ≤ (xss.map (·.length)).sum
  | _, _, 0, _, _ => by simp [DSum.cat]
  | [], _, k + 1, _, hk => by simp at hk
  | xs :: r, i, k + 1, h, hk => by
    rw [List.range'_succ, List.map_cons]
    have h0 := h 0 xs rfl
    have ih := cat_size f r (i + 1) k (fun j ys e => by
      have := h (j + 1) ys (by simpa using e)
      rwa [show i + (j + 1) = i + 1 + j by omega] at this) (by simpa using hk)
    simp only [DSum.cat, Array.size_append, List.map_cons, List.sum_cons, Nat.add_zero] at h0 ih ⊢
    omega
/-- sum(lists, []) -/
def rSumL (K : PySem.W.Frag) : List V → Hp → VK → Prop := fun vs H Q => ∃ (a b : Addr) (as : List Addr) (xss : List (List V)), vs = [V.ref a, V.ref b] ∧ SqL K H a (as.map V.ref) ∧ SqL K H b [] ∧ as.length = xss.length ∧
  (∀ (j : Nat) (p : Addr) (xs : List V), as[j]? = some p → xss[j]? = some xs → SqL K H p xs) ∧ 0 < as.length ∧ (xss.map (·.length)).sum ≤ 1000000 ∧ ∀ p, H p = none → Q (.ref p) (upd H p (.lst xss.flatten))
section
variable {X : Cx}
theorem cr_sumL (hc : X.calm = true) : CallR X (.builtin "sum") (rSumL X.K) := by
  intro pins s σ H vs us Q I r h
  obtain ⟨a, b, as, xss, rfl, ha, hb, hl, hx, hn, hz, q⟩ := h
  have eu : us = [Value.ref a, Value.ref b] := vals_refs (as := [a, b]) r
  rw [eu]
  have hd := I.ok.hd hc
  obtain ⟨its, rv, pl, _⟩ := I.list ha
  obtain ⟨itb, rb, pb, _⟩ := I.list hb
  have e1 := vals_refs rv
  subst e1
  cases rb
  have ex : ∀ j : Nat, ∃ arr : Array Value, ∀ xs, xss[j]? = some xs → Vals xs arr.toList ∧ s.heap.IsList (as.getD j 0) arr := fun j => by
    by_cases hj : j < xss.length
    · have h1 := hx j (as[j]'(by omega)) xss[j] (List.getElem?_eq_getElem (by omega)) (List.getElem?_eq_getElem hj)
      obtain ⟨it, rr, pp, _⟩ := I.list h1
      refine ⟨it.toArray, fun xs e => ?_⟩
      rw [List.getElem?_eq_getElem hj] at e
      obtain rfl := Option.some.inj e
      refine ⟨rr, ?_⟩
      simp only [List.getD, List.getElem?_eq_getElem (show j < as.length by omega), Option.getD_some]
      exact pp.isList
    · exact ⟨#[], fun xs e => by rw [List.getElem?_eq_none_iff.mpr (by omega)] at e; cases e⟩
  obtain ⟨f, hf⟩ := Classical.skolem.mp ex
  have sz : ∀ j xs, xss[j]? = some xs → (f (0 + j)).size = xs.length := fun j xs e => by
    rw [Nat.zero_add]
    have := (hf j xs e).1.length
    rw [this, Array.length_toList]
  have es0 : ((as.map Value.ref).toArray).size = xss.length := by simp [hl]
  refine DSum.call_sumL hd pl.isList pb.isList f (fun j hj => ?_) (by rw [es0]; omega) (fun j hj => ?_) fun s' p k1 g1 o1 hp hat => ?_
  · rw [es0] at hj
    refine ⟨as[j]'(by omega), by simp [show j < as.length by omega], ?_⟩
    have := (hf j xss[j] (List.getElem?_eq_getElem hj)).2
    simpa only [List.getD, List.getElem?_eq_getElem (show j < as.length by omega), Option.getD_some] using this
  · rw [es0] at hj
    exact Nat.le_trans (cat_size f xss 0 j sz hj) (Nat.le_trans hz (by decide))
  · rw [es0] at hat
    have hv := cat_vals X.K f xss 0 fun j xs e => by rw [Nat.zero_add]; exact (hf j xs e).1
    have small : xss.flatten.length ≤ sizeLine := by
      rw [List.length_flatten]
      exact Nat.le_trans hz (by decide)
    have free : H p = none := I.hok.fresh hp
    have J : Inv X pins σ (upd H p (.lst xss.flatten)) { s with heap := s'.heap, gens := s'.gens, drawn := s'.drawn, toks := s'.toks } :=
      I.call (ch := []) (Un.laid k1 hp free) (I.hok.laid k1 hp ⟨small, _, 0, hv, hat⟩) (by rw [g1]; exact I.bare) (fun _ z => nomatch z)
    have es : s' = { s with heap := s'.heap, gens := s'.gens, drawn := s'.drawn, toks := s'.toks } := by
      cases s'
      cases s
      cases o1
      rfl
    rw [es]
    exact ⟨.ref p, _, J, rfl, q p free⟩
end
/-- the lists that a list holds -/
def listsD : List PyData → Option (List (List PyData))
  | [] => some []
  | .list l :: r => (listsD r).map (l :: ·)
  | _ => none
def fSumL : FL := fun xs Q => match xs with
  | [.list ls, .list []] => ∃ lss, listsD ls = some lss ∧ 0 < lss.length ∧ (lss.map (·.length)).sum ≤ 1000000 ∧ Q (.o lss.flatten)
  | _ => False
theorem lists_reps {K : PySem.W.Frag} {F : Hp} : ∀ {ls : List PyData} {lss : List (List PyData)} {vs : List V}, listsD ls = some lss → Reps K F vs ls → ∃ (as : List Addr) (xss : List (List V)), vs = as.map V.ref ∧ as.length = xss.length ∧ xss.length = lss.length ∧
    (∀ (j : Nat) (p : Addr) (xs : List V), as[j]? = some p → xss[j]? = some xs → SqL K F p xs) ∧ Reps K F xss.flatten lss.flatten ∧ xss.map (·.length) = lss.map (·.length)
  | [], lss, vs, e, h => by
    cases e
    rw [show vs = [] from h]
    exact ⟨[], [], rfl, rfl, rfl, fun j p xs z => by simp at z, rfl, rfl⟩
  | .list l :: r, lss, vs, e, h => by
    have e' : (listsD r).map (l :: ·) = some lss := e
    obtain ⟨m, hm, rfl⟩ := Option.map_eq_some_iff.mp e'
    obtain ⟨v, ws, e1, ⟨a, us, e2, q1, q2⟩, h2⟩ := h
    obtain ⟨as, xss, g1, g2, g3, g4, g5, g6⟩ := lists_reps hm h2
    subst e1 e2 g1
    refine ⟨a :: as, us :: xss, rfl, by simp [g2], by simp [g3], fun j p xs hp hx => ?_, q2.append g5, by simp [g6, q2.len]⟩
    cases j with
    | zero =>
      simp at hp hx
      subst hp hx
      exact q1
    | succ j => exact g4 j p xs (by simpa using hp) (by simpa using hx)
  | .none :: _, _, _, e, _ => by cases e
  | .bool _ :: _, _, _, e, _ => by cases e
  | .int _ :: _, _, _, e, _ => by cases e
  | .str _ :: _, _, _, e, _ => by cases e
  | .tuple _ :: _, _, _, e, _ => by cases e
  | .dict _ :: _, _, _, e, _ => by cases e
theorem p_sumL {K : PySem.W.Frag} : PL K (rSumL K) fSumL := fun B F H σ Γ vs xs Q Kn E h hf k => by
  unfold fSumL at hf
  split at hf
  · rename_i ls
    obtain ⟨lss, el, hn, hz, q⟩ := hf
    obtain ⟨v, r, e1, h1, v2, r2, e2, h2, e3⟩ := h
    obtain ⟨a, ws, ea, sa, ra⟩ := h1
    obtain ⟨b, wb, eb, sb, rb⟩ := h2
    have : wb = [] := rb
    subst this
    have : r2 = [] := e3
    subst this e2 e1 ea eb
    obtain ⟨as, xss, g1, g2, g3, g4, g5, g6⟩ := lists_reps el ra
    subst g1
    exact ⟨a, b, as, xss, rfl, sa, sb, g2, fun j p xs hp hx => sql_mono E.ex (g4 j p xs hp hx), by omega, by rw [g6]; exact hz, fun p hp => k _ (.o lss.flatten) _ F (Same.id F) (E.layH hp) (rr_new E hp g5) q⟩
  · exact hf.elim
theorem F_sumL (Q : R → Prop) (ls : List PyData) : fSumL [.list ls, .list []] Q = ∃ lss, listsD ls = some lss ∧ 0 < lss.length ∧ (lss.map (·.length)).sum ≤ 1000000 ∧ Q (.o lss.flatten) := rfl
end DL

namespace DL
open PySem L2
/-! ### a module's dict with text keys -/
structure Gd (K : PySem.W.Frag) (w : World) (mg : Str → Option Value) (x : Str) (kvs : List (Str × PyData)) : Prop where
  ex : ∃ (a : Addr) (es : Array DictEntry) (n : Nat), mg x = some (.ref a) ∧ KDict K w a es n ∧ ∀ z : Str, match kvs.lookup z with
    | some d => ∃ (v : V) (u : Value), PySem.W.nsIn K a z = some (some u) ∧ RelV v u ∧ ∀ H, Rep K H v d
    | none => PySem.W.nsIn K a z = some none
def wKin (neg : Bool) (kvs : List (Str × PyData)) (wa : WE) : WE := fun Γ Q X => wa Γ (fun r Γ1 => ∃ z, rd Γ1 r = some (.str z) ∧ Q (.d (.bool (neg != (kvs.lookup z).isSome))) Γ1) X
def wKix (kvs : List (Str × PyData)) (wi : WE) : WE := fun Γ Q X => wi Γ (fun r Γ1 => ∃ z d, rd Γ1 r = some (.str z) ∧ kvs.lookup z = some d ∧ Q (.d d) Γ1) X
section
variable {K : PySem.W.Frag} {B : Bs} {F H : Hp} {σ : St} {Γ : G}
theorem rr_str (E : EnvR K B F H σ Γ) {v : V} {r : R} {z : Str} (h : RR K B F H σ Γ v r) (e : rd Γ r = some (.str z)) : v = .str z := by
  cases r with
  | d x => cases e; exact h
  | o l => cases e
  | b i =>
    simp only [rd] at e
    split at e
    · rename_i s q
      cases hs : s.mu with
      | none => rw [hs] at e; cases e
      | some l => rw [hs] at e; cases e
    · cases e
end
section
variable {X : Cx} {W : WX} {a : Expr} {wa : WE} {x : Str} {kvs : List (Str × PyData)} {p pos : Pos}
theorem pe_const {y : Expr} {v : V} {u : Value} (h : PE X y (fun σ H Q => Q v H)) : True := trivial
theorem de_kin (D : Gd X.K X.w X.mg x kvs) (ha : DE X W a wa) (hg : Gl X x := by rfl) (hd : (x == ("__debug__" : Str)) = false := by decide) (hm : behindInMarks .In (.Name x p) = false := by rfl) : DE X W (.Compare a [.In] [.Name x p] pos) (wKin false kvs wa) := by
  obtain ⟨ad, es, n, h1, h2, h3⟩ := D.ex
  refine de_of (pe_cmpR (op_in_kd h2) ha.pe (pe_glob (v := .ref ad) hg h1 rfl hd) hm) fun σ H Kn ⟨B, F, Γ, Q, Xq, E, hw, k, kx⟩ => ?_
  refine ⟨B, F, Γ, _, Xq, E, hw, fun v r H' F' Γ' s E' rr q => ?_, kx⟩
  obtain ⟨z, hz, q⟩ := q
  have e := rr_str E' rr hz
  subst e
  have h := h3 z
  cases hk : kvs.lookup z with
  | none =>
    rw [hk] at h q
    exact ⟨z, none, rfl, rfl, h, k _ (.d (.bool false)) H' F' Γ' s E' rfl q⟩
  | some d =>
    rw [hk] at h q
    obtain ⟨v, u, e1, _, _⟩ := h
    exact ⟨z, some u, rfl, rfl, e1, k _ (.d (.bool true)) H' F' Γ' s E' rfl q⟩
theorem de_knin (D : Gd X.K X.w X.mg x kvs) (ha : DE X W a wa) (hg : Gl X x := by rfl) (hd : (x == ("__debug__" : Str)) = false := by decide) (hm : behindInMarks .NotIn (.Name x p) = false := by rfl) : DE X W (.Compare a [.NotIn] [.Name x p] pos) (wKin true kvs wa) := by
  obtain ⟨ad, es, n, h1, h2, h3⟩ := D.ex
  refine de_of (pe_cmpR (op_notIn_kd h2) ha.pe (pe_glob (v := .ref ad) hg h1 rfl hd) hm) fun σ H Kn ⟨B, F, Γ, Q, Xq, E, hw, k, kx⟩ => ?_
  refine ⟨B, F, Γ, _, Xq, E, hw, fun v r H' F' Γ' s E' rr q => ?_, kx⟩
  obtain ⟨z, hz, q⟩ := q
  have e := rr_str E' rr hz
  subst e
  have h := h3 z
  cases hk : kvs.lookup z with
  | none =>
    rw [hk] at h q
    exact ⟨z, none, rfl, rfl, h, k _ (.d (.bool true)) H' F' Γ' s E' rfl q⟩
  | some d =>
    rw [hk] at h q
    obtain ⟨v, u, e1, _, _⟩ := h
    exact ⟨z, some u, rfl, rfl, e1, k _ (.d (.bool false)) H' F' Γ' s E' rfl q⟩
theorem dt_kin (D : Gd X.K X.w X.mg x kvs) (ha : DE X W a wa) (hg : Gl X x := by rfl) (hd : (x == ("__debug__" : Str)) = false := by decide) (hm : behindInMarks .In (.Name x p) = false := by rfl) : DT X W (.Compare a [.In] [.Name x p] pos) (wB (wKin false kvs wa)) := by
  obtain ⟨ad, es, n, h1, h2, h3⟩ := D.ex
  refine ⟨(pt_cmpR (op_in_kd h2) ha.pe (pe_glob (v := .ref ad) hg h1 rfl hd) hm).imp fun σ H Kn ⟨B, F, Γ, Q, Xq, E, hw, k, kx⟩ => ?_⟩
  refine ⟨B, F, Γ, _, Xq, E, hw, fun v r H' F' Γ' s E' rr q => ?_, kx⟩
  obtain ⟨z, hz, c, ec, q⟩ := q
  cases ec
  have e := rr_str E' rr hz
  subst e
  have h := h3 z
  cases hk : kvs.lookup z with
  | none =>
    rw [hk] at h q
    exact ⟨z, none, rfl, rfl, h, false, rfl, k false H' F' Γ' s E' q⟩
  | some d =>
    rw [hk] at h q
    obtain ⟨v, u, e1, _, _⟩ := h
    exact ⟨z, some u, rfl, rfl, e1, true, rfl, k true H' F' Γ' s E' q⟩
theorem dt_knin (D : Gd X.K X.w X.mg x kvs) (ha : DE X W a wa) (hg : Gl X x := by rfl) (hd : (x == ("__debug__" : Str)) = false := by decide) (hm : behindInMarks .NotIn (.Name x p) = false := by rfl) : DT X W (.Compare a [.NotIn] [.Name x p] pos) (wB (wKin true kvs wa)) := by
  obtain ⟨ad, es, n, h1, h2, h3⟩ := D.ex
  refine ⟨(pt_cmpR (op_notIn_kd h2) ha.pe (pe_glob (v := .ref ad) hg h1 rfl hd) hm).imp fun σ H Kn ⟨B, F, Γ, Q, Xq, E, hw, k, kx⟩ => ?_⟩
  refine ⟨B, F, Γ, _, Xq, E, hw, fun v r H' F' Γ' s E' rr q => ?_, kx⟩
  obtain ⟨z, hz, c, ec, q⟩ := q
  cases ec
  have e := rr_str E' rr hz
  subst e
  have h := h3 z
  cases hk : kvs.lookup z with
  | none =>
    rw [hk] at h q
    exact ⟨z, none, rfl, rfl, h, true, rfl, k true H' F' Γ' s E' q⟩
  | some d =>
    rw [hk] at h q
    obtain ⟨v, u, e1, _, _⟩ := h
    exact ⟨z, some u, rfl, rfl, e1, false, rfl, k false H' F' Γ' s E' q⟩
theorem de_kix (D : Gd X.K X.w X.mg x kvs) (ha : DE X W a wa) (hg : Gl X x := by rfl) (hd : (x == ("__debug__" : Str)) = false := by decide) (hs : PlainIx a := by exact fun _ _ => rfl) : DE X W (.Subscript (.Name x p) a pos) (wKix kvs wa) := by
  obtain ⟨ad, es, n, h1, h2, h3⟩ := D.ex
  refine de_of (pe_ix ix_kdict (pe_glob (v := .ref ad) hg h1 rfl hd) ha.pe hs) fun σ H Kn ⟨B, F, Γ, Q, Xq, E, hw, k, kx⟩ => ?_
  refine ⟨B, F, Γ, _, Xq, E, hw, fun v r H' F' Γ' s E' rr q => ?_, kx⟩
  obtain ⟨z, d, hz, hk, q⟩ := q
  have e := rr_str E' rr hz
  subst e
  have h := h3 z
  rw [hk] at h
  obtain ⟨v, u, e1, e2, e3⟩ := h
  exact ⟨ad, z, v, rfl, rfl, ⟨es, n, u, h2.at_, h2.lit, e1, e2⟩, k _ (.d d) H' F' Γ' s E' (e3 _) q⟩
end
end DL

namespace DL
open PySem L2
abbrev DTab : Type := Str × List (Str × PyData)
def dictB (K : PySem.W.Frag) (a : Addr) (kvs : List (Str × PyData)) : Bool := kvs.all fun q => match PySem.W.nsIn K a q.1 with
  | some (some u) => cvB K u q.2
  | _ => false
theorem dictB_ok {K : PySem.W.Frag} {a : Addr} {kvs : List (Str × PyData)} (h : dictB K a kvs = true) {q : Str × PyData} (hq : q ∈ kvs) : ∃ (v : V) (u : Value), PySem.W.nsIn K a q.1 = some (some u) ∧ RelV v u ∧ ∀ H, Rep K H v q.2 := by
  have h2 := List.all_eq_true.mp h q hq
  cases e : PySem.W.nsIn K a q.1 with
  | none => rw [e] at h2; cases h2
  | some r =>
    rw [e] at h2
    cases r with
    | none => cases h2
    | some u =>
      obtain ⟨a1, a2⟩ := cvB_ok q.2 h2
      exact ⟨_, u, rfl, a1, a2⟩
theorem dicW_map {K : PySem.W.Frag} {w : World} {a : Addr} {es : Array DictEntry} {n : Nat} {ks : List Str} (D : KDict K w a es n) (h : He.dicW K a = some (He.keysIn w.params ks)) : es.toList.map He.keyOf = He.keysIn w.params ks := by
  unfold He.dicW at h
  rw [D.at_] at h
  have h2 : (match decide ("dict" = "dict") && ((#[] : Array (Option Value)).isEmpty && !(a == sysModules)) with
            | true => some (es.toList.map He.keyOf)
            | false => none) = some (He.keysIn w.params ks) := h
  rw [D.low] at h2
  exact Option.some.inj h2
theorem miss_list {P : Params} {z : Str} : ∀ {l : List DictEntry} {ks : List Str}, l.map He.keyOf = He.keysIn P ks → z ∉ ks → l.find? (·.key.isStr z) = none ∧ l.any (·.refKey) = false
  | [], _, _, _ => ⟨rfl, rfl⟩
  | e :: r, [], h, _ => by cases h
  | e :: r, k :: ks, h, hz => by
    have h1 : He.keyOf e :: r.map He.keyOf = some (k, PyData.keyHash P k) :: He.keysIn P ks := h
    injection h1 with h2 h3
    simp only [List.mem_cons, not_or] at hz
    obtain ⟨i1, i2⟩ := miss_list h3 hz.2
    have hk : ∃ t, e.key = .str k t := by
      unfold He.keyOf at h2
      split at h2
      · rename_i x t q
        have h4 := Option.some.inj h2
        obtain ⟨h5, h6⟩ := Prod.mk.inj h4
        exact ⟨t, by rw [q, h5]⟩
      · cases h2
    obtain ⟨t, hk⟩ := hk
    refine ⟨?_, ?_⟩
    · rw [List.find?_cons]
      have : e.key.isStr z = false := by
        rw [hk]
        show (k == z) = false
        have hne : ¬ k = z := fun q => hz.1 q.symm
        simpa using hne
      rw [this]
      exact i1
    · rw [List.any_cons, i2, Bool.or_false]
      unfold DictEntry.refKey
      rw [hk]
theorem gd_of {K : PySem.W.Frag} {w : World} {mg : Str → Option Value} {x : Str} {kvs : List (Str × PyData)} (hm : mg x = some (.ref (He.ga K x))) (h1 : He.dicW K (He.ga K x) = some (He.keysIn w.params (kvs.map (·.1)))) (h2 : dictB K (He.ga K x) kvs = true) : Gd K w mg x kvs := by
  obtain ⟨es, n, D⟩ := He.dicW_ok h1
  refine ⟨_, es, n, hm, D, fun z => ?_⟩
  cases q : kvs.lookup z with
  | some d =>
    have hmem : (z, d) ∈ kvs := by
      clear hm h1 h2
      induction kvs with
      | nil => cases q
      | cons p r ih =>
        obtain ⟨k, v⟩ := p
        rw [List.lookup_cons] at q
        cases e : (z == k) with
        | true =>
          rw [e] at q
          cases q
          rw [beq_iff_eq] at e
          subst e
          exact List.mem_cons_self
        | false =>
          rw [e] at q
          exact List.mem_cons_of_mem _ (ih q)
    exact dictB_ok h2 hmem
  | none =>
    have hz : z ∉ kvs.map (·.1) := by
      clear hm h1 h2
      induction kvs with
      | nil => simp
      | cons p r ih =>
        obtain ⟨k, v⟩ := p
        rw [List.lookup_cons] at q
        cases e : (z == k) with
        | true => rw [e] at q; cases q
        | false =>
          rw [e] at q
          have hne : ¬ z = k := by simpa using e
          simp only [List.map_cons, List.mem_cons, not_or]
          exact ⟨hne, ih q⟩
    obtain ⟨m1, m2⟩ := miss_list (dicW_map D h1) hz
    show PySem.W.nsIn K _ z = some none
    unfold PySem.W.nsIn
    rw [D.at_]
    show (match es.toList.find? (·.key.isStr z) with
      | some e => some (some e.val)
      | none => if es.toList.any (·.refKey) then none else some none) = some none
    rw [m1]
    show (if es.toList.any (·.refKey) then none else some none) = some none
    rw [m2]
    rfl
/-! ### the head's facts, dicts with them -/
def obsK (ts : List DTab) (es : List (Str × List Str)) (cs : List (Str × PyData)) (fa : List He.Fa) (fn : List He.DefD) (K : PySem.W.Frag) : He.AlT :=
  (((ts.all fun t => dictB K (He.ga K t.1) t.2) && (obsE es cs fa fn K).1, (obsE es cs fa fn K).2), ts.map fun t => He.dicW K (He.ga K t.1))
def valK (ts : List DTab) (fn : List He.DefD) (w : World) : He.AlT := (He.valD fn, ts.map fun t => some (He.keysIn w.params (t.2.map (·.1))))
def SaysK (ts : List DTab) (es : List (Str × List Str)) (cs : List (Str × PyData)) (fa : List He.Fa) (fn : List He.DefD) (w : World) (K : PySem.W.Frag) : Prop := obsK ts es cs fa fn K = valK ts fn w
def obsKG (n : Nat) (ts : List DTab) (es : List (Str × List Str)) (cs : List (Str × PyData)) (fa : List He.Fa) (fn : List He.DefD) (g : Addr → Option Obj) : He.AlT := obsK ts es cs fa fn (He.frG g (asF g n mainGlobals))
def hookK (n : Nat) (ts : List DTab) (es : List (Str × List Str)) (cs : List (Str × PyData)) (fa : List He.Fa) (fn : List He.DefD) : PySem.W.Hook where
  α := He.AlT
  obs := fun s => obsKG n ts es cs fa fn s.heap.get?
  val := fun w => valK ts fn w
  says := fun w h => ∃ K : PySem.W.Frag, K.In h ∧ SaysK ts es cs fa fn w K
  of := fun _ _ e => ⟨_, He.frG_in, e⟩
  keeps := fun _ _ _ ⟨K, hK, c⟩ k => ⟨K, PySem.W.Frag.In.keeps hK k, c⟩
theorem obsKG_eq {n : Nat} {ts : List DTab} {es : List (Str × List Str)} {cs : List (Str × PyData)} {fa : List He.Fa} {fn : List He.DefD} {g : Addr → Option Obj} {s : Shared} (h : ∀ a, g a = s.heap.get? a) : obsKG n ts es cs fa fn g = (hookK n ts es cs fa fn).obs s := by
  have e : g = s.heap.get? := funext h
  rw [e] <;> rfl
section
variable {ts : List DTab} {es : List (Str × List Str)} {cs : List (Str × PyData)} {fa : List He.Fa} {fn : List He.DefD} {w : World} {K : PySem.W.Frag} {mg : Str → Option Value}
theorem SaysK.both (c : SaysK ts es cs fa fn w K) : (ts.all fun t => dictB K (He.ga K t.1) t.2) = true ∧ SaysE es cs fa fn K := by
  have h0 := congrArg (fun z : He.AlT => z.1) c
  have h1 := congrArg (fun z : He.AlD => z.1) h0
  have h2 := congrArg (fun z : He.AlD => z.2) h0
  have h3 : ((ts.all fun t => dictB K (He.ga K t.1) t.2) && (obsE es cs fa fn K).1) = true := h1
  rw [Bool.and_eq_true] at h3
  exact ⟨h3.1, Prod.ext h3.2 h2⟩
theorem SaysK.tab (c : SaysK ts es cs fa fn w K) (i : Nat) {x : Str} {kvs : List (Str × PyData)} (hm : mg x = some (.ref (He.ga K x))) (h : ts[i]? = some (x, kvs) := by rfl) : Gd K w mg x kvs := by
  have e : ts.map (fun t => He.dicW K (He.ga K t.1)) = ts.map fun t => some (He.keysIn w.params (t.2.map (·.1))) := congrArg (fun z : He.AlT => z.2) c
  have e2 : (ts.map fun t => He.dicW K (He.ga K t.1))[i]? = (ts.map fun t => some (He.keysIn w.params (t.2.map (·.1))))[i]? := by rw [e]
  rw [List.getElem?_map, List.getElem?_map, h] at e2
  exact gd_of hm (Option.some.inj e2) (List.all_eq_true.mp c.both.1 (x, kvs) (List.mem_of_getElem? h))
end
end DL

namespace DL
open PySem L2
/-! ### {..}[x], the display of texts alone -/
def trsOf (kvs : List (Str × Str)) : List (TE × TE) := kvs.map fun kv => (tC (.str kv.1), tC (.str kv.2))
def kvOf (kvs : List (Str × Str)) : List (Key × V) := kvs.map fun kv => (Sum.inr kv.1, V.str kv.2)
theorem tPairs_of {σ : St} : ∀ {kvs : List (Str × Str)} {H : Hp} {Q : List (V × V) → Hp → Prop}, Q ((kvOf kvs).map fun kv => (kV kv.1, kv.2)) H → tPairs (trsOf kvs) σ H Q
  | [], _, _, h => h
  | kv :: r, H, Q, h => by
    show tPairs (trsOf r) σ H _
    exact tPairs_of (kvs := r) h
theorem mergeK_nd : ∀ {more acc : List (Key × V)}, ((acc ++ more).map (·.1)).Nodup → mergeK acc more = acc ++ more
  | [], acc, _ => (List.append_nil acc).symm
  | (k, v) :: r, acc, h => by
    show mergeK (putK acc k v) r = _
    have hn : valV acc k = none := by
      cases e : valV acc k with
      | none => rfl
      | some x =>
        exfalso
        have := valV_in e
        rw [List.map_append, List.nodup_append] at h
        exact h.2.2 k this k (by simp) rfl
    rw [putK_new v hn, mergeK_nd (by rw [List.append_assoc]; exact h), List.append_assoc]
    rfl
theorem valV_kvOf : ∀ (kvs : List (Str × Str)) (z : Str), valV (kvOf kvs) (.inr z) = (kvs.lookup z).map V.str
  | [], z => rfl
  | (k, v) :: r, z => by
    rw [List.lookup_cons]
    cases e : (z == k) with
    | true =>
      rw [beq_iff_eq] at e
      subst e
      exact valV_pos rfl
    | false =>
      have hne : ¬ z = k := by simpa using e
      exact (valV_neg (p := (Sum.inr k, V.str v)) (r := kvOf r) (k := .inr z) (fun q => hne (Sum.inr.inj q).symm)).trans (valV_kvOf r z)
def ndB (kvs : List (Str × Str)) : Bool := decide (kvs.map (·.1)).Nodup
def wDix (kvs : List (Str × Str)) (wi : WE) : WE := fun Γ Q X => wi Γ (fun r Γ1 => ∃ z d, rd Γ1 r = some (.str z) ∧ kvs.lookup z = some d ∧ Q (.d (.str d)) Γ1) X
section
variable {X : Cx} {W : WX} {a : Expr} {wa : WE} {kvs : List (Str × Str)} {p pos : Pos} {k : Nat} {keys : List (Option Expr)} {values : List Expr}
theorem de_dix (hr : Room k X.A) (h : PPs X p keys values (trsOf kvs)) (ha : DE X W a wa) (hn : ndB kvs = true) (hall : keys.all (·.isSome) = true) (hl : keys.length = values.length) (h0 : keys ≠ []) (h15 : keys.length ≤ 15) (h16 : kvs.length ≤ 15) (hs : NoSl a := by exact fun _ _ => rfl) :
    DE X W (.Subscript (.Dict keys values p) a pos) (wDix kvs wa) := by
  refine de_of (pe_dget (by have := hr.un; omega) (pe_disp h hall hl h0 h15) ha.pe hs) fun σ H Kn ⟨B, F, Γ, Q, Xq, E, hw, kk, kx⟩ => ?_
  intro q hq
  refine tPairs_of ⟨upd_same, kvOf kvs, rfl, by unfold kvOf; rw [List.length_map]; exact h16, ?_⟩
  have e1 : upd (upd H q (.dK [])) q (.dK (mergeK [] (kvOf kvs))) = upd H q (.dK (kvOf kvs)) := by
    have e2 : mergeK [] (kvOf kvs) = kvOf kvs := by
      have := mergeK_nd (more := kvOf kvs) (acc := []) (by
        have hn := of_decide_eq_true (show decide (kvs.map (·.1)).Nodup = true from hn)
        rw [List.nil_append]
        unfold kvOf
        rw [List.map_map]
        have e3 : (fun kv : Str × Str => ((Sum.inr kv.1, V.str kv.2) : Key × V).1) = (fun s : Str => (Sum.inr s : Key)) ∘ (·.1) := rfl
        show (kvs.map ((fun s : Str => (Sum.inr s : Key)) ∘ (·.1))).Nodup
        rw [← List.map_map]
        exact List.Pairwise.map _ (fun a b hab q => hab (Sum.inr.inj q)) hn)
      simpa using this
    rw [e2]
    funext b
    unfold upd
    by_cases hb : b = q
    · simp [hb]
    · simp [hb]
  rw [e1]
  refine ⟨B, upd F q (.dK (kvOf kvs)), Γ, _, Xq, E.lay hq, hw, fun v r H' F' Γ' s E' rr q' => ?_, kx.mono (same_upd (none_back E.ex hq))⟩
  obtain ⟨z, d, hz, hk, q'⟩ := q'
  have e := rr_str E' rr hz
  subst e
  have hH : H' q = some (.dK (kvOf kvs)) := E'.ex _ _ (s q _ (upd_same))
  refine ⟨q, .str d, rfl, ?_, kk _ (.d (.str d)) H' F' Γ' ((same_upd (none_back E.ex hq)).trans s) E' rfl q'⟩
  have := DGet.k (k := .inr z) hH
  rw [valV_kvOf, hk] at this
  exact this
end
end DL

namespace DL
open PySem L2 PyProof.Rows
/-! ### sum of ints -/
theorem ints_reps {K : PySem.W.Frag} {F : Hp} : ∀ {ns : List Int} {vs : List V}, Reps K F vs (ns.map PyData.int) → vs = ns.map V.int
  | [], vs, h => h
  | n :: ns, vs, h => by
    obtain ⟨v, r, e1, h1, h2⟩ := h
    rw [e1, show v = V.int n from h1, ints_reps h2]
    rfl
def intsD : List PyData → Option (List Int)
  | [] => some []
  | .int n :: r => (intsD r).map (n :: ·)
  | _ => none
theorem intsD_ok : ∀ {ls : List PyData} {ns : List Int}, intsD ls = some ns → ls = ns.map PyData.int
  | [], _, e => by cases e; rfl
  | .int n :: r, ns, e => by
    have e' : (intsD r).map (n :: ·) = some ns := e
    obtain ⟨m, hm, rfl⟩ := Option.map_eq_some_iff.mp e'
    rw [intsD_ok hm]
    rfl
  | .none :: _, _, e => by cases e
  | .bool _ :: _, _, e => by cases e
  | .str _ :: _, _, e => by cases e
  | .list _ :: _, _, e => by cases e
  | .tuple _ :: _, _, e => by cases e
  | .dict _ :: _, _, e => by cases e
theorem intsD_map : ∀ ns : List Int, intsD (ns.map PyData.int) = some ns
  | [] => rfl
  | n :: ns => by
    show (intsD (ns.map PyData.int)).map (n :: ·) = _
    rw [intsD_map ns]
    rfl
def fSumI : FL := fun xs Q => match xs with
  | [.list ls] => ∃ ns, intsD ls = some ns ∧ Q (.d (.int ns.sum))
  | _ => False
theorem p_sumI {K : PySem.W.Frag} : PL K (rSum K) fSumI := fun B F H σ Γ vs xs Q Kn E h hf k => by
  unfold fSumI at hf
  split at hf
  · rename_i ls
    obtain ⟨ns, el, q⟩ := hf
    have := intsD_ok el
    subst this
    obtain ⟨v, r, e1, h1, e3⟩ := h
    obtain ⟨a, ws, ea, sa, ra⟩ := h1
    have : r = [] := e3
    subst this e1 ea
    rw [ints_reps ra] at sa
    exact ⟨a, ns, rfl, sa, k _ (.d (.int ns.sum)) _ F (Same.id F) E rfl q⟩
  · exact hf.elim
theorem F_sumI (Q : R → Prop) (ls : List PyData) : fSumI [.list ls] Q = ∃ ns, intsD ls = some ns ∧ Q (.d (.int ns.sum)) := rfl
/-! ### min(xs, default=None) -/
def minN : List Int → PyData
  | [] => .none
  | x :: r => .int (PySem.W.minOf x r)
def rMinN (K : PySem.W.Frag) : List V → List V → Hp → VK → Prop := fun vs zs H Q => ∃ (a : Addr) (ns : List Int), vs = [V.ref a] ∧ zs = [V.non] ∧ SqL K H a (ns.map V.int) ∧ Q (match ns with | [] => .non | x :: r => .int (PySem.W.minOf x r)) H
theorem holdAll_ints {h : Heap} : ∀ {vs : List Value} {ns : List Int}, IntsAre vs ns → PySem.W.HoldAll h vs ns
  | _, _, .nil => PySem.W.HoldAll.nil
  | _, _, .cons n t r => PySem.W.HoldAll.cons ⟨_, Reads.int n t⟩ (holdAll_ints r)
theorem cr_minN {X : Cx} {k : Nat} (hr : Room k X.A) (hc : X.calm = true) : CallRK X (.builtin "min") [Str.ofString "default"] (rMinN X.K) := by
  intro pins s σ H vs zs us ws Q I r rz h
  obtain ⟨a, ns, rfl, rfl, hs, q⟩ := h
  obtain ⟨its, rv, hl, _⟩ := I.list hs
  rw [Vals.ref1 r]
  obtain ⟨w1, rfl, e1⟩ := vals1 rz
  obtain rfl : w1 = Value.none := e1
  refine PySem.W.min_list_datum_default (α := Int) (xs := ns) (I.ok.hd hc) hl.isList (by rw [List.toList_toArray]; exact holdAll_ints rv.ints) (by show X.A.units + 1 + 0 < cLine; have := hr.un; omega) (fun e h' tk hk => ?_) fun y ys i v h' tk e hi ho hk => ?_
  · subst e
    exact ⟨.non, H, I.kept hk, rfl, q⟩
  · subst e
    obtain ⟨as, ho⟩ := ho
    refine ⟨.int (PySem.W.minOf y ys), H, I.kept hk, ?_, q⟩
    have ho' : Reads h' v (.int (PySem.W.minOf y ys)) as := ho
    cases ho' with
    | int i t => exact ⟨t, rfl⟩
def wMinN (wa : WA) : WE := fun Γ Q X => wa Γ (fun rs Γ1 => ∃ ls ns, rds Γ1 rs = some [.list ls] ∧ intsD ls = some ns ∧ Q (.d (minN ns)) Γ1) X
section
variable {X : Cx} {W : WX} {e : Expr} {wa : WA} {p pos kp cp : Pos} {k jj : Nat}
theorem de_minN (hr : Room k X.A) (hc : X.calm = true) (hm : X.mg "min" = none) (ha : DA X W [e] wa) (hg : Gl X "min" := by rfl)
    (he : backTo pos (starEach [e] X.env) = (false, eval e X.env) :: backTo pos (starEach [] X.env) := by rfl) (hpl : (backTo pos (starEach [e] X.env)).any (·.1) = false := by rfl)
    (hall : (backToKw pos (keywordEach [⟨some "default", .Constant .none jj cp, kp⟩] X.env)).all (·.1.isSome) = true := by rfl) (hnone : (backToKw pos (keywordEach [⟨some "default", .Constant .none jj cp, kp⟩] X.env)).any (·.1.isNone) = false := by rfl)
    (hks : (backToKw pos (keywordEach [⟨some "default", .Constant .none jj cp, kp⟩] X.env)).filterMap (·.1) = [Str.ofString "default"] := by rfl) :
    DE X W (.Call (.Name "min" p) [e] [⟨some "default", .Constant .none jj cp, kp⟩] pos) (wMinN wa) := by
  refine de_of (pe_callBK (cr_minN hr hc) hg hm (by decide +kernel) ha.pa (pk_cons pe_non pk_nil) (by decide) (by decide) he hpl hall hnone hks) fun σ H Kn ⟨B, F, Γ, Q, Xq, E, hw, kk, kx⟩ => ?_
  refine ⟨B, F, Γ, _, Xq, E, hw, fun vs rs H' F' Γ' s E' rr q => ?_, kx⟩
  obtain ⟨ls, ns, h1, h2, q⟩ := q
  have := intsD_ok h2
  subst this
  obtain ⟨v, r, e1, h1, e3⟩ := RRs.shs E' rr h1
  obtain ⟨a, ws, ea, sa, ra⟩ := h1
  have : r = [] := e3
  subst this e1 ea
  rw [ints_reps ra] at sa
  refine ⟨a, ns, rfl, rfl, sa, ?_⟩
  cases ns with
  | nil => exact kk _ (.d .none) H' F' Γ' s E' rfl q
  | cons x r => exact kk _ (.d (.int _)) H' F' Γ' s E' rfl q
end
end DL

/-! enumerate of a tuple -/
namespace PySem
open Sem (wp)
open AutoSeq1 (wpAny_loadPart')
theorem DEn_meets (l : Addr) (items : Array Value) (n : Nat) (dct : Option Addr) (sl : Array (Option Value)) :
    Meets (Builtin.«enumerate.__new__» ⟨[.type "enumerate", .ref l], []⟩) (fun _ R s => s.heap.get? l = some { cls := .type "tuple", dict := dct, data := .seq items n, slots := sl } ∧
      R (.ok (.ret (.ref (s.heap.push { cls := .type "tuple_iterator", data := .fields #[.ref l, .int 0 0] }).objs.size)))
        { s with heap := (s.heap.push { cls := .type "tuple_iterator", data := .fields #[.ref l, .int 0 0] }).push { cls := .type "enumerate", data := .fields #[.none, .bool false, .ref s.heap.objs.size, rawInt 0, .none, .none] } }) :=
  .of_wp fun prog w A R s h => by
    obtain ⟨hp, g, d, tk, os⟩ := s; obtain ⟨hl, h⟩ := h
    have hsub := sub_enumerate
    have hL : Heap.IsTuple (Shared.heap ⟨hp, g, d, tk, os⟩) l items := ⟨_, hl, rfl, n, rfl⟩
    wp_walk using wpAny_loadPart' hl
    refine wpAny_stack_any fun st => wpAny_pure ?_
    split
    · rename_i c _ _ _ _ _
      cases (c == Value.type "enumerate")
      · wp_walk using wpAny_loadPart' hl, wpAny_pyIter_tuple hL
        exact ⟨_, rfl, h⟩
      · wp_walk using wpAny_loadPart' hl, wpAny_pyIter_tuple hL
        exact ⟨_, rfl, h⟩
    · wp_walk using wpAny_loadPart' hl, wpAny_pyIter_tuple hL
      exact ⟨_, rfl, h⟩
section
variable {prog : Program} {w : World} {A : Around} {E : Value → Shared → Prop} {s : Shared}
theorem DEn_call {l : Addr} {items : Array Value} {Q : Value → Shared → Prop} (hL : s.heap.IsTuple l items)
    (h : ∀ h', IsEnum h' (s.heap.objs.size + 1) s.heap.objs.size 0 .none → h'.IsTupleIter s.heap.objs.size l 0 → h'.objs.size = s.heap.objs.size + 2 →
      (∀ b o, s.heap.get? b = some o → h'.get? b = some o) → Q (.ref (s.heap.objs.size + 1)) { s with heap := h' }) :
    wpAny (model prog w) A (call (.type "enumerate") [.ref l]) Q E s := by
  obtain ⟨⟨c, dct, dt, sl⟩, hl, hc, n, hd⟩ := hL
  replace hc : c = .type "tuple" := hc
  replace hd : dt = .seq items n := hd
  subst hc hd
  refine callType_new F.called_enumerate (by decide) (F.typeCall_enumerate_1 _) (F.newCall_enumerate_1 _) (fun obj => F.args_object_init_2 obj _) F.entry_enumerate_new
    (DEn_meets l items n dct sl) ⟨hl, ?_⟩
  have hz : (s.heap.push { cls := .type "tuple_iterator", data := .fields #[.ref l, .int 0 0] }).objs.size = s.heap.objs.size + 1 := Heap.size_push ..
  show _ ∧ _
  rw [hz]
  have he : IsEnum ((s.heap.push { cls := .type "tuple_iterator", data := .fields #[.ref l, .int 0 0] }).push
      { cls := .type "enumerate", data := .fields #[.none, .bool false, .ref s.heap.objs.size, rawInt 0, .none, .none] }) (s.heap.objs.size + 1) s.heap.objs.size 0 .none := by
    have := Heap.get?_push_size (s.heap.push { cls := .type "tuple_iterator", data := .fields #[.ref l, .int 0 0] })
      (o := { cls := .type "enumerate", data := .fields #[.none, .bool false, .ref s.heap.objs.size, rawInt 0, .none, .none] }) rfl
    rw [hz] at this; exact this
  refine ⟨⟨_, he, rfl⟩, h _ he ⟨_, Heap.get?_push_of_some _ (Heap.get?_push_size _ rfl), rfl, rfl⟩ (by rw [Heap.size_push, hz]) fun b o x => Heap.get?_push_of_some _ (Heap.get?_push_of_some _ x)⟩
end
end PySem
namespace DL
open PySem PySem.Spec L2 PyProof.Rows
def Itet (K : PySem.W.Frag) (a : Addr) : It :=
  ⟨fun i H => ∃ (xs : List V) (x : V), SqT K H a xs ∧ xs[i]? = some x, fun i H v H' => ∃ T x, v = .ref T ∧ H T = none ∧ H' = upd H T (.tup [.int (i : Nat), x]) ∧ ∀ xs, SqT K H a xs → xs[i]? = some x, fun i H => ∃ xs : List V, SqT K H a xs ∧ xs.length ≤ i⟩
theorem turn_enumT {P : Program} {w : World} {K : PySem.W.Frag} {elts : List Expr} {kk : Nat} {tpos : Pos} (a e it : Addr) :
    Turn P w K (.Tuple elts kk tpos) (Itet K a) [e, it] e (fun i h => (∃ old, IsEnum h e it ((i : Nat) : Int) old) ∧ h.IsTupleIter it a i ∧ e ≠ it ∧ e ≠ a ∧ it ≠ a) where
  mem := by simp
  obj := fun i h st b hb => by
    obtain ⟨⟨old, he⟩, ⟨o, ho, hc, hd⟩, _⟩ := st
    have e' : b = e ∨ b = it := by simpa using hb
    rcases e' with z | z
    · rw [z]; exact ⟨_, he, fun v q => nomatch q⟩
    · rw [z]; exact ⟨o, ho, fun v q => by rw [hd] at q; cases q⟩
  keep := fun i h h' st k => let ⟨⟨old, he⟩, hi, hne⟩ := st; ⟨⟨old, k e (by simp) _ he⟩, hi.at fun o q => k it (by simp) o q, hne⟩
  item := by
    intro X hP hw hK hc i pins s σ H E I hf st hg
    subst hP hw hK
    obtain ⟨⟨old, he⟩, hit, hne, hea, hia⟩ := st
    obtain ⟨xs, x, hq, hx⟩ := hg
    obtain ⟨its, rv, p, hz⟩ := I.tuple hq
    obtain ⟨u, hu, ru⟩ := rv.get hx
    have hel : e < s.heap.objs.size := Heap.lt_size he
    have hil : it < s.heap.objs.size := by obtain ⟨_, q, _⟩ := hit; exact Heap.lt_size q
    have pt : s.heap.IsTuple a its.toArray := p
    have hlt : i < its.toArray.size := by
      have := rv.length
      have h1 := (List.getElem?_eq_some_iff.mp hx).1
      simp
      omega
    refine wpAny_pyNext_enum_itemD (Draws.tuple (prog := X.prog) (w := X.w) (A := X.A.in1) (I.ok.hd hc) it a (Ne.symm hia) its.toArray) he ⟨hit, pt⟩ hlt hne (by simp [hne, hea]) fun x' h' tk hP ho hit' hT hsz hk => ?_
    have ex : x' = u := by
      have hP' : its[i]? = some x' := by simpa using hP
      rw [hu] at hP'
      exact (Option.some.inj hP').symm
    subst ex
    refine ⟨_, rfl, wpAny_letOwnedTupleGo_enum (s := { s with heap := h', toks := tk + 1 }) ho fun h'' he' sb => ?_⟩
    have hT2 : h''.get? s.heap.objs.size = some { cls := .type "tuple", data := .seq #[.int i tk, x'] } := (sb.2 _ (Nat.ne_of_gt hel)).trans hT
    have new : ObjOk X.prog X.w (upd H s.heap.objs.size (.tup [.int (i : Nat), x])) h'' s.heap.objs.size (.tup [.int (i : Nat), x]) :=
      ⟨by show 2 ≤ sizeLine; decide, [.int i tk, x'], .cons ⟨_, rfl⟩ (.cons ru .nil), ⟨_, hT2, rfl, _, rfl⟩⟩
    have I1 : Inv X pins σ (upd H s.heap.objs.size (.tup [.int (i : Nat), x])) { s with heap := h'', toks := tk + 1 } :=
      I.turnedNew (ch := [e, it]) (fun b ob hb q => (sb.2 b (fun z => hb (by simp [z]))).trans (hk b ob (fun z => hb (by simp [z])) (fun z => hb (by simp [z])) q)) hf (Nat.le_refl _) new
    refine ⟨.ref s.heap.objs.size, _, I1, rfl, ⟨_, x, rfl, I.hok.fresh (Nat.le_refl _), rfl, fun ys hy => by rw [I.tuple_inj hy hq]; exact hx⟩, ⟨⟨x', ?_⟩, hit'.1.at fun o q => (sb.2 it (Ne.symm hne)).trans q, hne, hea, hia⟩, fun b hb => ?_⟩
    · have e1 : ((i + 1 : Nat) : Int) = (i : Int) + 1 := by omega
      rw [e1]; exact he'
    · have hb' : b < s.heap.objs.size := by
        have e' : b = e ∨ b = it := by simpa using hb
        rcases e' with z | z
        · rw [z]; exact hel
        · rw [z]; exact hil
      rw [upd_ne (Nat.ne_of_lt hb')]
      exact (hf b hb).1
  done := by
    intro X hP hw hK hc i pins s σ H E I hf st hg
    subst hP hw hK
    obtain ⟨⟨old, he⟩, hit, hne, hea, hia⟩ := st
    obtain ⟨xs, hq, hx⟩ := hg
    obtain ⟨its, rv, p, hz⟩ := I.tuple hq
    obtain ⟨f0, f1, f2, f3, f4, f5⟩ := hf it (by simp)
    have hl := rv.length
    have hT : s.TypeIs (.ref e) "enumerate" := ⟨_, he, rfl⟩
    unfold pyNext
    refine wpAny_bind (wpAny_attempt (wpAny_callSpecial?_slot (name := Str.ofString "__next__") hT F.slot_enumerate_next
      (wpAny_call_entry F.slot_enumerate_next hT F.entry_enumerate_next ?_ (F.args_enumerate_next_1 _))))
    show wpAny _ _ (field (.ref e) 2 >>= _) _ _ _
    refine wpAny_bind (wpAny_field he rfl (x := .ref it) rfl ?_)
    refine wpAny_bind (wpAny_nextOf_tuple_end (I.ok.hd hc) hit (show s.heap.IsTuple a its.toArray from p) (by simp; omega) fun h' x he' hx' => ?_)
    obtain ⟨o, ho, hcc⟩ := hx'
    refine wpAny_bind (wpAny_isInstance (T := "StopIteration") (b := true) ⟨o, ho, hcc⟩ isSubtype_stop ?_)
    exact wpAny_pure ⟨rfl, I.turned (t' := s.toks) (fun b o hb q => he' b o hb q) f0 f1 f3 f4 f5⟩
  self := fun A i s Q E st h => let ⟨⟨_, he⟩, _⟩ := st; wpAny_pyIter_enum he h
def iEnumA (K : PySem.W.Frag) (ta : TA) : TI := fun σ H R => ta σ H fun vs H1 => ∃ a xs, vs = [.ref a] ∧ ((SqL K H1 a xs ∧ R (Ite K a) H1) ∨ (SqT K H1 a xs ∧ R (Itet K a) H1))
theorem pi_enumA {X : Cx} {e : Expr} {ta : TA} {p pos tpos : Pos} {elts : List Expr} {kk : Nat} (hg : Gl X "enumerate") (hm : X.mg "enumerate" = none) (ha : PA X [e] ta) (hs : starEach [e] X.env = [(false, eval e X.env)] := by rfl) :
    PI X (.Tuple elts kk tpos) (.Call (.Name "enumerate" p) [e] [] pos) (iEnumA X.K ta) := by
  refine ⟨fun pins s σ H R I h => ?_⟩
  refine Call_ (ld_blt I hg hm boot_enumerate (PyProof.Rows.callWith_type1 (thn (ha.run pos pins s σ H _ I h) fun us s1 ⟨vs, H1, I1, r1, q1⟩ => ?_) hs rfl))
  obtain ⟨a, xs, ex, q⟩ := q1
  subst ex
  rcases q with ⟨hq, q⟩ | ⟨hq, q⟩
  · cases r1 with
    | cons r rr =>
      cases rr
      cases r
      obtain ⟨its, rv, p', hz⟩ := I1.list hq
      refine call_enumerate_list p'.isList fun h' he hit hsz hk => wpAny_pyIter_enum he ?_
      have I2 : Inv X pins σ H1 { s1 with heap := h' } := I1.kept (t' := s1.toks) hk
      refine ⟨s1.heap.objs.size + 1, [s1.heap.objs.size + 1, s1.heap.objs.size], _, _, H1, rfl, I2, turn_enum a (s1.heap.objs.size + 1) s1.heap.objs.size, ⟨⟨.none, he⟩, hit, Nat.succ_ne_self _⟩, fun b hb => ?_, q⟩
      have e' : b = s1.heap.objs.size + 1 ∨ b = s1.heap.objs.size := by simpa using hb
      have hle : s1.heap.objs.size ≤ b := by
        rcases e' with z | z
        · rw [z]; exact Nat.le_add_right _ _
        · rw [z]; exact Nat.le_refl _
      exact I1.fpOk hle (I1.hok.fresh hle)
  · cases r1 with
    | cons r rr =>
      cases rr
      cases r
      obtain ⟨its, rv, p', hz⟩ := I1.tuple hq
      have pt : s1.heap.IsTuple a its.toArray := p'
      have hal : a < s1.heap.objs.size := by obtain ⟨o, q, _⟩ := pt; exact Heap.lt_size q
      refine DEn_call pt fun h' he hit hsz hk => wpAny_pyIter_enum he ?_
      have I2 : Inv X pins σ H1 { s1 with heap := h' } := I1.kept (t' := s1.toks) hk
      refine ⟨s1.heap.objs.size + 1, [s1.heap.objs.size + 1, s1.heap.objs.size], _, _, H1, rfl, I2, turn_enumT a (s1.heap.objs.size + 1) s1.heap.objs.size, ⟨⟨.none, he⟩, hit, Nat.succ_ne_self _, Nat.ne_of_gt (Nat.lt_succ_of_lt hal), Nat.ne_of_gt hal⟩, fun b hb => ?_, q⟩
      have e' : b = s1.heap.objs.size + 1 ∨ b = s1.heap.objs.size := by simpa using hb
      have hle : s1.heap.objs.size ≤ b := by
        rcases e' with z | z
        · rw [z]; exact Nat.le_add_right _ _
        · rw [z]; exact Nat.le_refl _
      exact I1.fpOk hle (I1.hok.fresh hle)
/-! ### the data's law -/
def enumL (l : List PyData) : List PyData := (List.range l.length).map fun i => .tuple [.int (i : Nat), l.getD i .none]
theorem enumL_len (l : List PyData) : (enumL l).length = l.length := by unfold enumL; rw [List.length_map, List.length_range]
theorem enumL_get {l : List PyData} {i : Nat} {d : PyData} (h : l[i]? = some d) : (enumL l)[i]? = some (.tuple [.int (i : Nat), d]) := by
  have hi := (List.getElem?_eq_some_iff.mp h).1
  unfold enumL
  rw [List.getElem?_map, List.getElem?_range hi]
  simp [List.getD, h]
theorem walks_enum {K : PySem.W.Frag} {F : Hp} {a : Addr} {vs : List V} {l : List PyData} (h : SqL K F a vs) (r : Reps K F vs l) : Walks K F (Ite K a) (enumL l) where
  go := fun i H s hi => by
    rw [enumL_len] at hi
    obtain ⟨v, h1, _⟩ := r.get (List.getElem?_eq_getElem hi)
    exact ⟨vs, v, sql_mono s h, h1⟩
  stop := fun H s => ⟨vs, sql_mono s h, by rw [enumL_len, r.len]; exact Nat.le_refl _⟩
  yld := fun i H x H' s hi ⟨T, y, e, hT, eH, hy⟩ => by
    subst e eH
    rw [enumL_len] at hi
    obtain ⟨v, h1, h2⟩ := r.get (List.getElem?_eq_getElem hi)
    have hx := hy vs (sql_mono s h)
    rw [h1] at hx
    cases hx
    refine ⟨same_upd hT, _, enumL_get (List.getElem?_eq_getElem hi), fun B F1 σ Γ s1 E1 => ⟨upd F1 T (.tup [.int (i : Nat), y]), same_upd (none_back E1.ex hT), fun b o q => upd_ne (fun z => by rw [z, hT] at q; cases q), E1.lay hT, ?_⟩⟩
    exact rep_tup (none_back E1.ex hT) ⟨_, _, rfl, rfl, _, _, rfl, Rep.mono s1 _ _ h2, rfl⟩
theorem walks_enumT {K : PySem.W.Frag} {F : Hp} {a : Addr} {vs : List V} {l : List PyData} (h : SqT K F a vs) (r : Reps K F vs l) : Walks K F (Itet K a) (enumL l) where
  go := fun i H s hi => by
    rw [enumL_len] at hi
    obtain ⟨v, h1, _⟩ := r.get (List.getElem?_eq_getElem hi)
    exact ⟨vs, v, sqt_mono s h, h1⟩
  stop := fun H s => ⟨vs, sqt_mono s h, by rw [enumL_len, r.len]; exact Nat.le_refl _⟩
  yld := fun i H x H' s hi ⟨T, y, e, hT, eH, hy⟩ => by
    subst e eH
    rw [enumL_len] at hi
    obtain ⟨v, h1, h2⟩ := r.get (List.getElem?_eq_getElem hi)
    have hx := hy vs (sqt_mono s h)
    rw [h1] at hx
    cases hx
    refine ⟨same_upd hT, _, enumL_get (List.getElem?_eq_getElem hi), fun B F1 σ Γ s1 E1 => ⟨upd F1 T (.tup [.int (i : Nat), y]), same_upd (none_back E1.ex hT), fun b o q => upd_ne (fun z => by rw [z, hT] at q; cases q), E1.lay hT, ?_⟩⟩
    exact rep_tup (none_back E1.ex hT) ⟨_, _, rfl, rfl, _, _, rfl, Rep.mono s1 _ _ h2, rfl⟩
def seqD : PyData → Option (List PyData)
  | .list l => some l
  | .tuple l => some l
  | _ => none
def wEnum (wa : WA) : WI := fun Γ Q X => wa Γ (fun rs Γ1 => ∃ d l, rs = [.d d] ∧ seqD d = some l ∧ Q (enumL l) Γ1) X
theorem di_enum {X : Cx} {W : WX} {e : Expr} {wa : WA} {p pos tpos : Pos} {elts : List Expr} {kk : Nat} (ha : DA X W [e] wa) (hm : X.mg "enumerate" = none) (hg : Gl X "enumerate" := by rfl) (hs : starEach [e] X.env = [(false, eval e X.env)] := by rfl) : DI X W (.Tuple elts kk tpos) (.Call (.Name "enumerate" p) [e] [] pos) (wEnum wa) :=
  di_of (pi_enumA hg hm ha.pa hs) fun σ H Kn ⟨B, F, Γ, Q, Xq, E, hw, k, kx⟩ => ⟨B, F, Γ, _, Xq, E, hw, fun vs rs H' F' Γ' s E' rr q => by
    obtain ⟨d, l, e, hn, q⟩ := q
    subst e
    obtain ⟨v, ws, e1, h1, h2⟩ := rr
    have : ws = [] := h2
    subst this e1
    have h1 : Rep X.K F' v d := h1
    cases d with
    | list m =>
      cases hn
      obtain ⟨a, vs, e, g1, g2⟩ := h1
      subst e
      exact ⟨a, vs, rfl, .inl ⟨sql_mono E'.ex g1, k _ _ H' F' Γ' s E' (walks_enum g1 g2) q⟩⟩
    | tuple m =>
      cases hn
      obtain ⟨a, vs, e, g1, g2⟩ := h1
      subst e
      exact ⟨a, vs, rfl, .inr ⟨sqt_mono E'.ex g1, k _ _ H' F' Γ' s E' (walks_enumT g1 g2) q⟩⟩
    | _ => exact absurd hn (by simp [seqD]), kx⟩
end DL

namespace DL
open PySem L2
/-! ### len(set(e)) of texts -/
def rLenT (P : Program) (w : World) : List V → Hp → VK → Prop := fun vs H Q => ∃ (a : Addr) (m : List Str), vs = [V.ref a] ∧ H a = some (TxSet P w a m) ∧ m.length ≤ 4000 ∧ (m.Nodup → Q (.int m.length) H)
section
variable {X : Cx}
theorem cr_lenT : CallR X (.builtin "len") (rLenT X.prog X.w) := by
  intro pins s σ H vs us Q I r h
  obtain ⟨a, m, rfl, ha, hl, q⟩ := h
  rw [Vals.ref1 r]
  have R : TxS X.prog X.w s.heap a m := (I.hok a _ ha).1
  obtain ⟨⟨es, ep, t⟩, ho, F, nd, wk⟩ := R
  have len : es.size = m.length := F.sz
  refine call_len_set ho ⟨rfl, rfl, rfl⟩ rfl F.fit (by show (es.size : Int) < 2 ^ 63; omega) ⟨.int m.length, H, I.tok _, ⟨_, by rw [len]⟩, q nd⟩
end
def wLenSet (w : WE) : WE := fun Γ Q X => w Γ (fun r Γ1 => ∃ d ks, rd Γ1 r = some d ∧ textsOf d = some ks ∧ ks.length ≤ 4000 ∧
  ∀ m : List Str, m.Nodup → (∀ z, z ∈ m ↔ z ∈ ks) → Q (.d (.int m.length)) Γ1) X
section
variable {X : Cx} {W : WX} {e : Expr} {w : WE} {p1 p2 c1 c2 : Pos}
theorem de_lenSet (he : DE X W e w) (hm1 : X.mg "len" = none) (hm2 : X.mg "set" = none) (hc : X.calm = true := by rfl) (g1 : Gl X "len" := by rfl) (g2 : Gl X "set" := by rfl)
    (a1 : starEach [e] X.env = (false, eval e X.env) :: starEach [] X.env := by rfl) (b1 : (backTo c2 (starEach [] X.env)).any (·.1) = false := by rfl)
    (a2 : starEach [.Call (.Name "set" p2) [e] [] c2] X.env = (false, eval (.Call (.Name "set" p2) [e] [] c2) X.env) :: starEach [] X.env := by rfl) (b2 : (backTo c1 (starEach [] X.env)).any (·.1) = false := by rfl) :
    DE X W (.Call (.Name "len" p1) [.Call (.Name "set" p2) [e] [] c2] [] c1) (wLenSet w) := by
  have inner := pe_callTy (p := p2) (pos := c2) (x := "set") (cr_setT hc) g2 hm2 PyProof.Rows.boot_set (pa_cons he.pe pa_nil (hs := a1)) (he := a1) (hpl := b1)
  refine de_of (pe_callB (p := p1) (pos := c1) (x := "len") cr_lenT g1 hm1 PySem.boot_len (pa_cons inner pa_nil (hs := a2)) (he := a2) (hpl := b2)) fun σ H Kn h => ?_
  obtain ⟨B, F, Γ, Q, Xq, E, hw, k, kx⟩ := h
  refine ⟨B, F, Γ, _, Xq, E, hw, fun v r H1 F1 Γ1 s1 E1 rr q => ?_, kx⟩
  obtain ⟨d, ks, hd, ht, hl, q⟩ := q
  have sh := E1.sh rr hd
  have main : ∀ a : Addr, v = .ref a → (SqL X.K H1 a (ks.map V.str) ∨ SqT X.K H1 a (ks.map V.str)) → rSetT X.K X.prog X.w [v] H1 fun x H2 => rLenT X.prog X.w [x] H2 Kn := fun a ev hs => by
    subst ev
    exact ⟨a, ks, rfl, hs, hl, fun p m hp hm hlen => ⟨p, m, rfl, upd_same, by omega, fun nd => k _ (.d (.int m.length)) _ F1 Γ1 s1 (E1.layH hp) rfl (q m nd hm)⟩⟩
  cases d with
  | list l =>
    obtain ⟨a, vs, ev, hq, hr⟩ := sh
    rw [strs_reps hr ht] at hq
    exact main a ev (.inl hq)
  | tuple l =>
    obtain ⟨a, vs, ev, hq, hr⟩ := sh
    rw [strs_reps hr ht] at hq
    exact main a ev (.inr (sqt_mono E1.ex hq))
  | _ => cases ht
end
end DL
namespace DL
open PySem L2
theorem seqD_l (l : List PyData) : seqD (.list l) = some l := rfl
theorem seqD_t (l : List PyData) : seqD (.tuple l) = some l := rfl
theorem textsOf_l (l : List PyData) : textsOf (.list l) = strsD l := rfl
theorem textsOf_t (l : List PyData) : textsOf (.tuple l) = strsD l := rfl
end DL

namespace DL
open PySem L2
open PySem.StrLaws PySem.Builtin.Str
/-! ### texts as lists of codes: partition, split by any text, strips -/
def pre (s : List Nat) (l : List Nat) : Bool := s.isPrefixOf l
theorem pre_iff {s l : List Nat} : pre s l = true ↔ l.take s.length = s := by
  unfold pre
  rw [List.isPrefixOf_iff_prefix]
  constructor
  · rintro ⟨t, rfl⟩; simp
  · intro h
    have := List.take_append_drop s.length l
    rw [h] at this
    exact ⟨_, this⟩
theorem pre_app (s t : List Nat) : pre s (s ++ t) = true := pre_iff.mpr (by simp)
theorem pre_len {s l : List Nat} (h : pre s l = true) : s.length ≤ l.length := by
  have := congrArg List.length (pre_iff.mp h)
  simp only [List.length_take] at this
  omega
theorem pre_eq {s l : List Nat} (h : pre s l = true) : l = s ++ l.drop s.length := by
  have := pre_iff.mp h
  conv => lhs; rw [← List.take_append_drop s.length l, this]
theorem xlen (x : Str) : x.cps.toList.length = x.length := by simp [Str.length]
theorem at_pre (x y : Str) (i : Nat) (hi : i ≤ x.length) : At x y x.length i ↔ pre y.cps.toList (x.cps.toList.drop i) = true := by
  rw [pre_iff, xlen]
  unfold At
  rw [subAt_eq, beq_iff_eq]
  constructor
  · rintro ⟨_, h⟩; exact h
  · intro h
    refine ⟨?_, h⟩
    have := congrArg List.length h
    simp only [List.length_take, List.length_drop, xlen] at this
    omega
theorem at_pre' (x y : Str) (i : Nat) (h : At x y x.length i) : pre y.cps.toList (x.cps.toList.drop i) = true := (at_pre x y i (by have := h.1; omega)).mp h
/-- up to the first s, whether there is one, behind it -/
def partL (s : List Nat) : List Nat → List Nat × Bool × List Nat
  | [] => ([], false, [])
  | c :: r => if pre s (c :: r) then ([], true, (c :: r).drop s.length) else (c :: (partL s r).1, (partL s r).2.1, (partL s r).2.2)
theorem partL_hit {s : List Nat} (hs : s ≠ []) (t : List Nat) : partL s (s ++ t) = ([], true, t) := by
  cases s with
  | nil => exact absurd rfl hs
  | cons a s =>
    rw [List.cons_append, partL, if_pos (by rw [← List.cons_append]; exact pre_app _ _), ← List.cons_append]
    simp
theorem partL_skip {s : List Nat} {c : Nat} {r : List Nat} (h : pre s (c :: r) = false) : partL s (c :: r) = (c :: (partL s r).1, (partL s r).2.1, (partL s r).2.2) := by
  rw [partL, h]
  rfl
theorem partL_none {s : List Nat} (hs : s ≠ []) : ∀ {l : List Nat}, (∀ i, pre s (l.drop i) = false) → partL s l = (l, false, [])
  | [], _ => rfl
  | c :: r, h => by
    rw [partL_skip (h 0), partL_none hs fun i => h (i + 1)]
theorem partL_first {s : List Nat} (hs : s ≠ []) : ∀ {l : List Nat} {i : Nat}, pre s (l.drop i) = true → (∀ k, k < i → pre s (l.drop k) = false) → partL s l = (l.take i, true, l.drop (i + s.length))
  | l, 0, h, _ => by
    rw [List.drop_zero] at h
    rw [pre_eq h, partL_hit hs]
    simp
  | [], i + 1, h, _ => by
    rw [List.drop_nil] at h
    have := pre_len h
    exact absurd (List.length_eq_zero_iff.mp (by simpa using this)) hs
  | c :: r, i + 1, h, hk => by
    rw [partL_skip (hk 0 (by omega)), partL_first (i := i) hs h fun k hk' => hk (k + 1) (by omega)]
    simp [Nat.add_right_comm]
theorem part_eq (x y : Str) (hy : y.cps.toList ≠ []) : Txt.partition x y = (ofL (partL y.cps.toList x.cps.toList).1, (if (partL y.cps.toList x.cps.toList).2.1 then y else Str.empty), ofL (partL y.cps.toList x.cps.toList).2.2) := by
  unfold Txt.partition
  rcases occ_head x y 1 (by omega) with ⟨e, h⟩ | ⟨i, r, e, h1, h2⟩
  · rw [e]
    have : ∀ i, pre y.cps.toList (x.cps.toList.drop i) = false := fun i => by
      cases q : pre y.cps.toList (x.cps.toList.drop i) with
      | false => rfl
      | true =>
        have hl := pre_len q
        simp only [List.length_drop, xlen] at hl
        have : 0 < y.cps.toList.length := List.length_pos_iff.mpr hy
        exact absurd ((at_pre x y i (by rw [xlen] at this; omega)).mpr q) (h i)
    rw [partL_none hy this]
    show (x, Str.empty, Str.empty) = _
    simp [ofL_of]
    rfl
  · rw [e]
    have hi : i ≤ x.length := by have := h1.1; omega
    rw [partL_first hy (at_pre' x y i h1) fun k hk => by
      cases q : pre y.cps.toList (x.cps.toList.drop k) with
      | false => rfl
      | true => exact absurd ((at_pre x y k (by omega)).mpr q) (h2 k hk)]
    have e1 : strSub x 0 i = ofL (x.cps.toList.take i) := str_ext (by rw [strSub_l, ofL_l]; simp)
    have e2 : strSub x (i + y.length) x.length = ofL (x.cps.toList.drop (i + y.length)) := str_ext (by
      rw [strSub_l, ofL_l]
      exact List.take_of_length_le (by simp only [List.length_drop, xlen]; omega))
    show (strSub x 0 i, y, strSub x (i + y.length) x.length) = _
    rw [e1, e2, xlen]
    rfl
/-! ### split -/
/-- the parts between the texts s; k signs are passed by first -/
def splK (s : List Nat) : List Nat → Nat → List (List Nat)
  | [], _ => [[]]
  | c :: r, 0 => if pre s (c :: r) then [] :: splK s r (s.length - 1) else match splK s r 0 with
    | p :: ps => (c :: p) :: ps
    | [] => [[c]]
  | _ :: r, k + 1 => splK s r k
abbrev splL (s l : List Nat) : List (List Nat) := splK s l 0
theorem splK_drop (s : List Nat) : ∀ (l : List Nat) (k : Nat), splK s l k = splK s (l.drop k) 0
  | [], k => by simp [splK]
  | c :: r, 0 => rfl
  | c :: r, k + 1 => by
    rw [splK, splK_drop s r k]
    rfl
theorem splL_hit {s : List Nat} (hs : s ≠ []) (t : List Nat) : splL s (s ++ t) = [] :: splL s t := by
  cases s with
  | nil => exact absurd rfl hs
  | cons a s =>
    show splK _ (a :: (s ++ t)) 0 = _
    rw [splK, if_pos (by rw [← List.cons_append]; exact pre_app _ _), splK_drop]
    simp
theorem splL_ne (s : List Nat) : ∀ l, ∃ p ps, splL s l = p :: ps
  | [] => ⟨_, _, rfl⟩
  | c :: r => by
    obtain ⟨p, ps, e⟩ := splL_ne s r
    unfold splL splK
    split
    · exact ⟨_, _, rfl⟩
    · rw [show splK s r 0 = p :: ps from e]; exact ⟨_, _, rfl⟩
theorem splL_skip {s : List Nat} {c : Nat} {r p : List Nat} {ps : List (List Nat)} (h : pre s (c :: r) = false) (e : splL s r = p :: ps) : splL s (c :: r) = (c :: p) :: ps := by
  unfold splL
  rw [splK, h, if_neg (by simp), show splK s r 0 = p :: ps from e]
def occR (s l : List Nat) : Nat → Nat → Nat → List Nat
  | _, _, 0 => []
  | free, k, m + 1 => if free ≤ k ∧ pre s (l.drop k) = true then k :: occR s l (k + s.length) (k + 1) m else occR s l free (k + 1) m
theorem occR_free {s l : List Nat} : ∀ (m f g k : Nat), f ≤ k → g ≤ k → occR s l f k m = occR s l g k m
  | 0, _, _, _, _, _ => rfl
  | m + 1, f, g, k, hf, hg => by
    unfold occR
    by_cases h : pre s (l.drop k) = true
    · rw [if_pos ⟨hf, h⟩, if_pos ⟨hg, h⟩]
    · rw [if_neg (fun z => h z.2), if_neg (fun z => h z.2)]
      exact occR_free m f g (k + 1) (by omega) (by omega)
theorem occR_ge {s l : List Nat} : ∀ (m f k : Nat), ∀ i ∈ occR s l f k m, k ≤ i
  | 0, _, _, i, h => by cases h
  | m + 1, f, k, i, h => by
    unfold occR at h
    split at h
    · rcases List.mem_cons.mp h with rfl | h
      · exact Nat.le_refl _
      · have := occR_ge m _ _ i h; omega
    · have := occR_ge m _ _ i h; omega
theorem occ_gen (x y : Str) (hy : y.cps.toList ≠ []) (lim : Nat) : ∀ (m k : Nat) (st : Array Nat × Nat), st.fst.size + m ≤ lim → k + m ≤ x.length + 1 →
    (forIn (List.range' k m) st (occBody x y x.length lim)).run.fst.toList = st.fst.toList ++ occR y.cps.toList x.cps.toList st.snd k m
  | 0, k, st, _, _ => by simp [occR]
  | m + 1, k, st, h1, h2 => by
    rw [List.range'_succ, List.forIn_cons]
    unfold occBody occR
    by_cases hc : st.snd ≤ k ∧ pre y.cps.toList (x.cps.toList.drop k) = true
    · obtain ⟨b1, b2⟩ := (at_pre x y k (by omega)).mpr hc.2
      rw [if_pos ⟨⟨⟨by omega, hc.1⟩, b1⟩, b2⟩, if_pos hc]
      refine (occ_gen x y hy lim m (k + 1) _ (by simp only [Array.size_push]; omega) (by omega)).trans ?_
      rw [Array.toList_push, List.append_assoc, xlen]
      rfl
    · rw [if_neg (fun z => hc ⟨z.1.1.2, (at_pre x y k (by omega)).mp ⟨z.1.2, z.2⟩⟩), if_neg hc]
      exact occ_gen x y hy lim m (k + 1) _ (by show st.fst.size + m ≤ lim; omega) (by omega)
theorem parts_gen (x : Str) (s : List Nat) (hs : s ≠ []) : ∀ (m k a : Nat), k ≤ a → a ≤ x.length → k + m = x.length + 1 →
    (partsFrom x s.length a (occR s x.cps.toList a k m)).map (fun s => s.cps.toList) = splL s (x.cps.toList.drop a)
  | 0, k, a, h1, h2, h3 => by omega
  | m + 1, k, a, h1, h2, h3 => by
    by_cases hk : k = a
    · subst hk
      by_cases hp : pre s (x.cps.toList.drop k) = true
      · have hl := pre_len hp
        have hpos : 0 < s.length := List.length_pos_iff.mpr hs
        simp only [List.length_drop, xlen] at hl
        have ih := parts_gen x s hs m (k + 1) (k + s.length) (by omega) (by omega) (by omega)
        rw [occR, if_pos ⟨Nat.le_refl _, hp⟩, partsFrom, List.map_cons, ih, pre_eq hp, splL_hit hs, List.drop_drop, strSub_l]
        simp
      · have hp' : pre s (x.cps.toList.drop k) = false := by simpa using hp
        rw [occR, if_neg (fun z => hp z.2)]
        by_cases hn : k = x.length
        · have e1 : x.cps.toList.drop k = [] := List.drop_eq_nil_of_le (by rw [xlen]; omega)
          have : m = 0 := by omega
          subst this
          rw [e1]
          simp [occR, partsFrom, splL, splK, strSub_l, e1]
        · have hlt : k < x.cps.toList.length := by rw [xlen]; omega
          have ed : x.cps.toList.drop k = x.cps.toList[k] :: x.cps.toList.drop (k + 1) := List.drop_eq_getElem_cons hlt
          have ih := parts_gen x s hs m (k + 1) (k + 1) (Nat.le_refl _) (by omega) (by omega)
          rw [occR_free m k (k + 1) (k + 1) (by omega) (Nat.le_refl _)]
          obtain ⟨p, ps, e⟩ := splL_ne s (x.cps.toList.drop (k + 1))
          rw [ed] at hp' ⊢
          rw [splL_skip hp' e]
          rw [e] at ih
          have hge := occR_ge (s := s) (l := x.cps.toList) m (k + 1) (k + 1)
          revert hge ih
          generalize occR s x.cps.toList (k + 1) (k + 1) m = cuts
          intro ih hge
          cases cuts with
          | nil =>
            simp only [partsFrom, List.map_cons, List.map_nil, strSub_l] at ih ⊢
            obtain ⟨i1, i2⟩ := List.cons.inj ih
            rw [ed, show x.length - k = (x.length - (k + 1)) + 1 by omega, List.take_succ_cons, i1, i2]
          | cons j r =>
            have hj := hge j (List.mem_cons_self ..)
            simp only [partsFrom, List.map_cons, strSub_l] at ih ⊢
            obtain ⟨i1, i2⟩ := List.cons.inj ih
            rw [ed, show j - k = (j - (k + 1)) + 1 by omega, List.take_succ_cons, i1, i2]
    · rw [occR, if_neg (fun z => hk (by omega))]
      exact parts_gen x s hs m (k + 1) a (by omega) h2 (by omega)
theorem back_l (l : List Str) : l = (l.map fun s => s.cps.toList).map ofL := by
  rw [List.map_map]
  have : (ofL ∘ fun s : Str => s.cps.toList) = id := by funext s; exact ofL_of s
  rw [this, List.map_id]
theorem splL_no {s : List Nat} : ∀ {l : List Nat}, (∀ i, i < l.length → pre s (l.drop i) = false) → splL s l = [l]
  | [], _ => rfl
  | c :: r, h => splL_skip (h 0 (by simp)) (splL_no fun i hi => h (i + 1) (by simpa using hi))
theorem split_eq (x y : Str) (hy : y.cps.toList ≠ []) (hk : ∀ c ∈ y.cps.toList, c < 256) : Txt.split x y = (splL y.cps.toList x.cps.toList).map ofL := by
  have one : (∀ i, i < x.cps.toList.length → pre y.cps.toList (x.cps.toList.drop i) = false) → [x] = (splL y.cps.toList x.cps.toList).map ofL := fun h => by rw [splL_no h]; simp [ofL_of]
  have hpos : 0 < y.cps.toList.length := List.length_pos_iff.mpr hy
  have eo : occurrences x y 0 x.length (x.length + 1) = occR y.cps.toList x.cps.toList 0 0 (x.length + 1) := by
    rw [occ_eq, occ_gen x y hy _ _ 0 (#[], 0) (by simp) (by omega)]
    rfl
  unfold Txt.split
  split
  · rename_i h
    refine one fun i hi => ?_
    rw [Bool.or_eq_true, decide_eq_true_eq, decide_eq_true_eq] at h
    rcases h with h | h
    · cases q : pre y.cps.toList (x.cps.toList.drop i) with
      | false => rfl
      | true =>
        have hl := pre_len q
        simp only [List.length_drop, xlen] at hl
        omega
    · exfalso
      have k1 : PySem.Builtin.Str.strKind y = 1 := by
        have : y.cps.all (fun c => decide (c < 256)) = true := by
          rw [Array.all_eq_true_iff_forall_mem]
          intro c hc
          exact decide_eq_true (hk c (by simpa using hc))
        simp [PySem.Builtin.Str.strKind, this]
      have k2 : 1 ≤ PySem.Builtin.Str.strKind x := by unfold PySem.Builtin.Str.strKind; split <;> first | omega | (split <;> omega)
      omega
  · split
    · rename_i h
      refine one fun i hi => ?_
      rw [eo, List.isEmpty_iff] at h
      cases q : pre y.cps.toList (x.cps.toList.drop i) with
      | false => rfl
      | true =>
        exfalso
        have : ∀ (m k : Nat), occR y.cps.toList x.cps.toList 0 k m = [] → k ≤ i → i < k + m → False := fun m => by
          induction m with
          | zero => intro k _ h1 h2; omega
          | succ m ih =>
            intro k e h1 h2
            unfold occR at e
            split at e
            · cases e
            · rename_i hn
              by_cases hk : k = i
              · subst hk; exact hn ⟨Nat.zero_le _, q⟩
              · exact ih (k + 1) e (by omega) (by omega)
        exact this _ 0 h (by omega) (by rw [xlen] at hi; omega)
    · rw [partsBetween_eq, eo]
      have := parts_gen x y.cps.toList hy (x.length + 1) 0 0 (Nat.le_refl _) (Nat.zero_le _) (by omega)
      rw [List.drop_zero, xlen] at this
      rw [← this]
      exact back_l _
/-! ### starts, ends, strips -/
theorem starts_eq (x y : Str) : Txt.startswith x y = pre y.cps.toList x.cps.toList := by
  have h := at_pre x y 0 (Nat.zero_le _)
  rw [List.drop_zero] at h
  unfold Txt.startswith
  cases q : pre y.cps.toList x.cps.toList with
  | true =>
    obtain ⟨a, b⟩ := h.mpr q
    rw [b, decide_eq_true a]
    rfl
  | false =>
    rw [Bool.and_eq_false_iff]
    by_cases h1 : 0 + y.length ≤ x.length
    · refine .inr ?_
      cases z : subAt x y 0 with
      | false => rfl
      | true => rw [h.mp ⟨h1, z⟩] at q; cases q
    · exact .inl (decide_eq_false h1)
def endsL (s l : List Nat) : Bool := decide (s.length ≤ l.length) && pre s (l.drop (l.length - s.length))
theorem ends_eq (x y : Str) : Txt.endswith x y = endsL y.cps.toList x.cps.toList := by
  have h := at_pre x y (x.length - y.length) (by omega)
  unfold Txt.endswith endsL
  rw [xlen, xlen, Nat.zero_add]
  by_cases h1 : y.length ≤ x.length
  · rw [decide_eq_true h1, Bool.true_and, Bool.true_and]
    cases z : subAt x y (x.length - y.length) with
    | true => exact (h.mp ⟨by omega, z⟩).symm
    | false =>
      cases q : pre y.cps.toList (x.cps.toList.drop (x.length - y.length)) with
      | false => rfl
      | true => rw [(h.mpr q).2] at z; cases z
  · rw [decide_eq_false h1]
    rfl
def lstL (c : Nat) : List Nat → List Nat := List.dropWhile (· == c)
def rstL (c : Nat) (l : List Nat) : List Nat := (lstL c l.reverse).reverse
theorem tw_len {p : Nat → Bool} (l : List Nat) : l.drop (l.takeWhile p).length = l.dropWhile p := by
  induction l with
  | nil => rfl
  | cons a l ih =>
    rw [List.takeWhile_cons, List.dropWhile_cons]
    split
    · simpa using ih
    · rfl
theorem goes_one (c : Nat) : (⟨#[c]⟩ : Str).cps.contains = fun a => a == c := by
  funext a
  show #[c].contains a = _
  rw [Bool.eq_iff_iff]
  simp
theorem sub_whole' (x : Str) : strSub x 0 x.length = x := sub_whole x
theorem lstrip_eq (x : Str) (c : Nat) : Txt.lstripChars x ⟨#[c]⟩ = ofL (lstL c x.cps.toList) := by
  unfold Txt.lstripChars Txt.stripBy
  rw [goes_one]
  have main : stripped (fun a => a == c) true false x = ofL (lstL c x.cps.toList) := by
    refine str_ext ?_
    unfold stripped stripHi stripLo
    rw [ofL_l, strSub_l]
    simp only [Bool.false_eq_true, if_false, if_true]
    rw [tw_len]
    refine List.take_of_length_le ?_
    rw [← tw_len, List.length_drop, xlen]
    exact Nat.le_refl _
  split
  · rename_i h
    unfold stripSame at h
    rw [Bool.and_eq_true, beq_iff_eq, beq_iff_eq] at h
    have e : stripped (fun a => a == c) true false x = x := by
      unfold stripped
      rw [h.2, h.1, sub_whole]
    rw [← main, e]
  · exact main
theorem rstrip_eq (x : Str) (c : Nat) : Txt.rstripChars x ⟨#[c]⟩ = ofL (rstL c x.cps.toList) := by
  unfold Txt.rstripChars Txt.stripBy
  rw [goes_one]
  have main : stripped (fun a => a == c) false true x = ofL (rstL c x.cps.toList) := by
    refine str_ext ?_
    unfold stripped stripHi stripLo
    rw [ofL_l, strSub_l]
    simp only [Bool.false_eq_true, if_false, if_true]
    unfold rstL lstL
    rw [List.drop_zero, ← tw_len, List.drop_reverse, List.reverse_reverse, xlen, Nat.sub_zero]
  split
  · rename_i h
    unfold stripSame at h
    rw [Bool.and_eq_true, beq_iff_eq, beq_iff_eq] at h
    have e : stripped (fun a => a == c) false true x = x := by
      unfold stripped
      rw [h.2, h.1, sub_whole]
    rw [← main, e]
  · exact main
end DL

namespace DL
open PySem L2
/-! ### xs.extend(a list of our own) -/
def rdO (Γ : G) : R → Option (List PyData)
  | .o l => some l
  | .b j => match Γ[j]? with
    | some s => s.mu
    | none => none
  | .d _ => none
theorem rdO_o (Γ : G) (l : List PyData) : rdO Γ (.o l) = some l := rfl
theorem rdO_b (Γ : G) (j : Nat) : rdO Γ (.b j) = match Γ[j]? with
    | some s => s.mu
    | none => none := rfl
def wExt (i : Nat) (w : WE) : WS := fun Γ P => (∃ l, mutAt Γ i = some l) ∧ w Γ (fun r Γ1 => match rdO Γ1 r, mutAt Γ1 i with
  | some c, some l => l.length + c.length ≤ sizeLine ∧ P.nx (putAt Γ1 i (l ++ c))
  | _, _ => False) P.xc
section
variable {X : Cx} {W : WX} {e : Expr} {w wi : WE} {i : Nat} {x : Str} {px apos pos pos2 : Pos}
theorem ds_extend {pos3 : Pos} (h0 : PE X (.Call (.Attribute (.Name x px) "extend" apos) [e] [] pos) (tBM X.K "list" rExtend (tVar i) (tCons (liftE X.K X.mg W w) tNil)))
    (hs : swapsWith (.Call (.Attribute (.Name x px) "extend" apos) [e] [] pos) none pos3.line X.env = pure false := by rfl) :
    DS X W (.Expr (.Call (.Attribute (.Name x px) "extend" apos) [e] [] pos) pos3) (wExt i w) :=
  ds_of (ps_expr h0 hs) fun D σ H ⟨B, F, Γ, P, E, hw, k⟩ => by
    obtain ⟨⟨l, hl⟩, hw⟩ := hw
    obtain ⟨s, a1, a2, a3⟩ := mutAt_some hl
    obtain ⟨p, vs, b1, b2, b3, b4, b5⟩ := E.mu i s l a1 a2
    refine ⟨V.ref p, b1, .inl ⟨rfl, _, SqL.of b3⟩, B, F, Γ, _, P.xc, E, hw, fun v r H1 F1 Γ1 s1 E1 rr q => ?_, k.xc σ⟩
    have q' : match rdO Γ1 r, mutAt Γ1 i with
      | some c, some l => l.length + c.length ≤ sizeLine ∧ P.nx (putAt Γ1 i (l ++ c))
      | _, _ => False := q
    cases em : mutAt Γ1 i with
    | none => rw [em] at q'; cases e : rdO Γ1 r <;> rw [e] at q' <;> exact q'.elim
    | some l1 =>
      obtain ⟨s', c1, c2, c3⟩ := mutAt_some em
      obtain ⟨p', vs', d1, d2, d3, d4, d5⟩ := E1.mu i s' l1 c1 c2
      rw [b1] at d1
      cases d1
      rw [em] at q'
      have fin : ∀ (c : List PyData) (p2 : Addr) (us : List V), v = V.ref p2 → H1 p2 = some (.lst us) → Reps X.K F1 us c → (l1.length + c.length ≤ sizeLine ∧ P.nx (putAt Γ1 i (l1 ++ c))) → rExtend (V.ref p) [v] H1 fun _ H1 => D.nx σ H1 := fun c p2 us hv hp hr hq =>
        ⟨p, p2, vs', us, rfl, by rw [hv], d3, hp, by rw [d4.len, hr.len]; exact hq.1, k.nx σ _ F1 _ s1 (E1.writeL em b1 (d4.append hr)) hq.2⟩
      cases r with
      | d x => exact q'.elim
      | o c =>
        obtain ⟨p2, us, e1, e2, e3, e4, _⟩ := rr
        exact fin c p2 us e1 e3 e4 q'
      | b j =>
        obtain ⟨h1, t, c, h2, h3⟩ := rr
        obtain ⟨p2, us, e1, e2, e3, e4, _⟩ := E1.mu j t c h2 h3
        rw [h1] at e1
        cases e1
        have : rdO Γ1 (.b j) = some c := by
          show (match Γ1[j]? with
            | some s => s.mu
            | none => none) = _
          rw [h2]
          exact h3
        rw [this] at q'
        exact fin c p2 us rfl e3 e4 q'
end
end DL

namespace DL
open PySem L2
/-! ### dicts that stand still: keys ints or texts -/
def kD : Key → PyData
  | .inl i => .int i
  | .inr s => .str s
theorem kD_inj : ∀ {a b : Key}, kD a = kD b → a = b
  | .inl i, .inl j, h => by injection h with h; rw [h]
  | .inr i, .inr j, h => by injection h with h; rw [h]
  | .inl i, .inr j, h => by cases h
  | .inr i, .inl j, h => by cases h
def dicD (kvs : List (Key × PyData)) : PyData := .dict (kvs.map fun p => (kD p.1, p.2))
def getP (kvs : List (Key × PyData)) (k : Key) : Option PyData := (kvs.find? fun kv => decide (kv.1 = k)).map (·.2)
def putP (kvs : List (Key × PyData)) (k : Key) (d : PyData) : List (Key × PyData) :=
  if (kvs.any fun kv => decide (kv.1 = k)) = true then kvs.map (fun kv => if kv.1 = k then (kv.1, d) else kv) else kvs ++ [(k, d)]
def RepD (K : PySem.W.Frag) (H : Hp) (ks : List (Key × V)) : List (Key × PyData) → Prop
  | [] => ks = []
  | (k, d) :: r => ∃ v rs, ks = (k, v) :: rs ∧ Rep K H v d ∧ RepD K H rs r
section
variable {K : PySem.W.Frag} {H H' : Hp}
theorem rep_kD (k : Key) : Rep K H (kV k) (kD k) := by cases k <;> exact rfl
theorem kD_rep {k : Key} {v : V} (h : Rep K H v (kD k)) : v = kV k := by cases k <;> exact h
theorem repK_D : ∀ {kvs : List (Key × PyData)} {ks : List (Key × V)}, RepK K H ks (kvs.map fun p => (kD p.1, p.2)) ↔ RepD K H ks kvs
  | [], ks => Iff.rfl
  | (k, d) :: r, ks => by
    constructor
    · rintro ⟨k', v, rs, e, ⟨h1, h2⟩, h3⟩
      have : kV k' = kV k := kD_rep h1
      have : k' = k := by
        cases k' <;> cases k <;> simp_all [kV]
      subst this
      exact ⟨v, rs, e, h2, repK_D.mp h3⟩
    · rintro ⟨v, rs, e, h2, h3⟩
      exact ⟨k, v, rs, e, ⟨rep_kD k, h2⟩, repK_D.mpr h3⟩
theorem rep_dic {v : V} {kvs : List (Key × PyData)} : Rep K H v (dicD kvs) ↔ ∃ a ks, v = .ref a ∧ H a = some (.dK ks) ∧ RepD K H ks kvs := by
  constructor
  · rintro ⟨a, ks, e, h1, h2⟩
    exact ⟨a, ks, e, h1, repK_D.mp h2⟩
  · rintro ⟨a, ks, e, h1, h2⟩
    exact ⟨a, ks, e, h1, repK_D.mpr h2⟩
theorem RepD.mono (e : Same H H') : ∀ {kvs : List (Key × PyData)} {ks : List (Key × V)}, RepD K H ks kvs → RepD K H' ks kvs
  | [], _, h => h
  | (k, d) :: r, _, ⟨v, rs, e1, h2, h3⟩ => ⟨v, rs, e1, Rep.mono e _ _ h2, RepD.mono e h3⟩
theorem RepD.len : ∀ {kvs : List (Key × PyData)} {ks : List (Key × V)}, RepD K H ks kvs → ks.length = kvs.length
  | [], _, h => by rw [show _ = [] from h]; rfl
  | (k, d) :: r, _, ⟨v, rs, e1, h2, h3⟩ => by rw [e1, List.length_cons, List.length_cons, RepD.len h3]
theorem RepD.get (k : Key) : ∀ {kvs : List (Key × PyData)} {ks : List (Key × V)}, RepD K H ks kvs → (getP kvs k = none ∧ valV ks k = none) ∨ ∃ d v, getP kvs k = some d ∧ valV ks k = some v ∧ Rep K H v d
  | [], _, h => by rw [show _ = [] from h]; exact .inl ⟨rfl, rfl⟩
  | (k', d) :: r, _, ⟨v, rs, e1, h2, h3⟩ => by
    subst e1
    by_cases hk : k' = k
    · refine .inr ⟨d, v, ?_, ?_, h2⟩
      · simp [getP, List.find?_cons, hk]
      · exact valV_pos hk
    · have e1 : getP ((k', d) :: r) k = getP r k := by simp [getP, List.find?_cons, hk]
      have e2 : valV ((k', v) :: rs) k = valV rs k := valV_neg hk
      rw [e1, e2]
      exact RepD.get k h3
theorem RepD.any (k : Key) : ∀ {kvs : List (Key × PyData)} {ks : List (Key × V)}, RepD K H ks kvs → (ks.any fun kv => decide (kv.1 = k)) = (kvs.any fun kv => decide (kv.1 = k))
  | [], _, h => by rw [show _ = [] from h]; rfl
  | (k', d) :: r, _, ⟨v, rs, e1, h2, h3⟩ => by rw [e1, List.any_cons, List.any_cons, RepD.any k h3]
theorem RepD.mapPut (k : Key) {d : PyData} {v : V} (hd : Rep K H v d) : ∀ {kvs : List (Key × PyData)} {ks : List (Key × V)}, RepD K H ks kvs → RepD K H (ks.map fun kv => if kv.1 = k then (kv.1, v) else kv) (kvs.map fun kv => if kv.1 = k then (kv.1, d) else kv)
  | [], _, h => by rw [show _ = [] from h]; exact rfl
  | (k', d') :: r, _, ⟨v', rs, e1, h2, h3⟩ => by
    subst e1
    simp only [List.map_cons]
    by_cases hk : k' = k
    · rw [if_pos hk, if_pos hk]; exact ⟨v, _, rfl, hd, RepD.mapPut k hd h3⟩
    · rw [if_neg hk, if_neg hk]; exact ⟨v', _, rfl, h2, RepD.mapPut k hd h3⟩
theorem RepD.snoc (k : Key) {d : PyData} {v : V} (hd : Rep K H v d) : ∀ {kvs : List (Key × PyData)} {ks : List (Key × V)}, RepD K H ks kvs → RepD K H (ks ++ [(k, v)]) (kvs ++ [(k, d)])
  | [], _, h => by rw [show _ = [] from h]; exact ⟨v, [], rfl, hd, rfl⟩
  | (k', d') :: r, _, ⟨v', rs, e1, h2, h3⟩ => ⟨v', rs ++ [(k, v)], by rw [e1]; rfl, h2, RepD.snoc k hd h3⟩
theorem RepD.put (k : Key) {d : PyData} {v : V} (hd : Rep K H v d) {kvs : List (Key × PyData)} {ks : List (Key × V)} (h : RepD K H ks kvs) : RepD K H (putK ks k v) (putP kvs k d) := by
  unfold putK putP
  rw [h.any k]
  split
  · exact h.mapPut k hd
  · exact h.snoc k hd
theorem putP_len (kvs : List (Key × PyData)) (k : Key) (d : PyData) : (putP kvs k d).length ≤ kvs.length + 1 := by
  unfold putP
  split <;> simp
end
/-! ### {k: v for target in iter if ..} -/
def dcS (t : Tg) (cond : WT) (kw vw : WE) (vs : List Nat) (Kn : Option (Key × PyData) → G → Prop) (d : PyData) (Γ : G) : Prop := wG t d Γ (fun Γ2 => cond Γ2 (fun b Γ3 => if b = true then kw Γ3 (fun rk Γ4 => ∃ k, rk = .d (kD k) ∧ vw Γ4 (fun rv Γ5 => match rdf rv with
    | some x => Kn (some (k, x)) (wipeG Γ5 vs)
    | none => False) noX) noX else Kn none (wipeG Γ3 vs)) noX)
def putO (acc : List (Key × PyData)) : Option (Key × PyData) → List (Key × PyData)
  | some (k, x) => putP acc k x
  | none => acc
structure DcI (t : Tg) (cond : WT) (kw vw : WE) (vs : List Nat) (Fin : List (Key × PyData) → G → Prop) (ds : List PyData) (I : List PyData → List (Key × PyData) → G → Prop) : Prop where
  step : ∀ (pre : List PyData) (d : PyData) (post : List PyData) (acc : List (Key × PyData)) (Γ : G), ds = pre ++ d :: post → I pre acc Γ → dcS t cond kw vw vs (fun o Γ' => I (pre ++ [d]) (putO acc o) Γ') d Γ
  fin : ∀ acc Γ, I ds acc Γ → Fin acc Γ
def wDc (wi : WI) (t : Tg) (cond : WT) (kw vw : WE) (vs : List Nat) : WE := fun Γ Q X => wi Γ (fun ds Γ1 => noMut Γ1 vs ∧ ds.length < sizeLine ∧ ∃ I, I [] [] (wipeG Γ1 vs) ∧ DcI t cond kw vw vs (fun acc Γ2 => Q (.d (dicD acc)) (backG Γ1 Γ2 vs)) ds I) X
section
variable {X : Cx} {W : WX} {pos : Pos} {tg iter kx vx : Expr} {ifs : List Expr} {wi : WI} {t : Tg} {cond : WT} {kw vw : WE}
theorem dc_go {K : PySem.W.Frag} {mg : Str → Option Value} {σ : St} {H : Hp} {Kn : VK} {vs : List Nat} (nd : vs.Nodup) (ht : ∀ i ∈ t.slots, i ∈ vs) (h : liftE K mg W (wDc wi t cond kw vw vs) σ H Kn) :
    tDc (liftI K mg W wi) (gOf K t) (liftT K mg WF cond) (liftE K mg WF kw) (liftE K mg WF vw) vs σ H Kn := by
  obtain ⟨B, F, Γ, Q, Xq, E, hw, k, kx⟩ := h
  refine ⟨B, F, Γ, _, Xq, E, hw, fun J ds H1 F1 Γ1 s1 E1 wk q => ?_, kx⟩
  obtain ⟨nm, hlen, I, i0, li⟩ := q
  have np := E1.noPin nm
  intro D hD
  have hDF : F1 D = none := none_back E1.ex hD
  have hD0 : B.H0 D = none := E1.old hD
  refine ⟨fun i m H => m = ds.length - i ∧ i ≤ ds.length ∧ ∃ F Γ acc accV, Same F1 F ∧ EnvR K B F H (wipe σ vs) Γ ∧ H D = some (.dK accV) ∧ F D = none ∧ ¬ MutAt (wipe σ vs) Γ D ∧ RepD K F accV acc ∧ acc.length ≤ i ∧
    I (ds.take i) acc Γ, ⟨ds.length, by simp, Nat.zero_le _, F1, _, [], [], Same.id F1, ((E1.wiped np).poke hD0 hDF ?_), upd_same, hDF, ?_, rfl, Nat.le_refl _, i0⟩, ?_⟩
  · rintro ⟨i, s, l, a1, a2, a3⟩
    obtain ⟨_, ws, c, _⟩ := (E1.wiped np).muH a1 a2 a3
    rw [hD] at c; cases c
  · rintro ⟨i, s, l, a1, a2, a3⟩
    obtain ⟨_, ws, c, _⟩ := (E1.wiped np).muH a1 a2 a3
    rw [hD] at c; cases c
  rintro i m H2 ⟨rfl, hi, F2, Γ2, acc, accV, s2, E2, dD, dF, dM, rA, lA, q2⟩
  by_cases hlt : i < ds.length
  · refine .inr ⟨wk.go i H2 (fun a o h => E2.ex a o (s2 a o h)) hlt, fun H => ∃ F Γ acc accV, Same F1 F ∧ EnvR K B F H (wipe σ vs) Γ ∧ H D = some (.dK accV) ∧ F D = none ∧ ¬ MutAt (wipe σ vs) Γ D ∧ RepD K F accV acc ∧ acc.length ≤ i + 1 ∧
      I (ds.take (i + 1)) acc Γ, fun H' hN => ⟨ds.length - (i + 1), by omega, rfl, hlt, hN⟩, fun x H3 y => ?_⟩
    obtain ⟨sH, d, hd, hw⟩ := wk.yld i H2 x H3 (fun a o h => E2.ex a o (s2 a o h)) hlt y
    obtain ⟨F3, s3, fz3, E3, hr⟩ := hw B F2 (wipe σ vs) Γ2 s2 E2
    have ed : ds = ds.take i ++ d :: ds.drop (i + 1) := by
      rw [List.getElem?_eq_getElem hlt] at hd
      rw [← Option.some.inj hd]
      simp
    have et : ds.take (i + 1) = ds.take i ++ [d] := by
      rw [List.getElem?_eq_getElem hlt] at hd
      rw [← Option.some.inj hd]
      exact (List.take_append_getElem hlt).symm
    rw [et]
    have q3 := li.step _ d _ acc Γ2 ed q2
    unfold dcS at q3
    have dD3 : H3 D = some (.dK accV) := sH D _ dD
    have dF3 : F3 D = none := (fz3 D _ dD).trans dF
    refine g_go E3.rebase hr q3 fun σ4 Γ4 E4 hwip q4 => ⟨by rw [hwip vs ht, wipe2], ?_⟩
    have ew : wipe σ4 vs = wipe σ vs := by rw [hwip vs ht, wipe2]
    have hmw : ∀ Γ', MutAt (wipe σ vs) (wipeG Γ' vs) D → MutAt σ4 Γ' D := fun Γ' z => mut_wipe (us := vs) (τ := σ4) (by rw [ew]; exact z)
    refine ⟨_, F3, Γ4, _, noX, E4, q4, fun b H5 F5 Γ5 s5 E5 q5 => ?_, fun x cls dd H' F' Γ' h => h.elim⟩
    cases b with
    | false =>
      obtain ⟨c1, c2, c3⟩ := E3.stay E5 dD3 dM
      have E6 := (E3.unbase E5).wiped np
      rw [hwip vs ht, wipe2] at E6
      have q5' : I (ds.take i ++ [d]) acc (wipeG Γ5 vs) := q5
      refine ⟨F5, _, acc, accV, (s2.trans s3).trans s5, E6, c1, c2.trans dF3, fun z => c3 (hmw _ z), RepD.mono (s3.trans s5) rA, Nat.le_succ_of_le lA, q5'⟩
    | true =>
      have q5' : kw Γ5 (fun rk Γ4 => ∃ k, rk = .d (kD k) ∧ vw Γ4 (fun rv Γ5 => match rdf rv with
        | some x => I (ds.take i ++ [d]) (putP acc k x) (wipeG Γ5 vs)
        | none => False) noX) noX := q5
      show liftE K mg WF kw σ4 H5 _
      refine ⟨_, F5, Γ5, _, noX, E5, q5', fun vk rk Hk Fk Γk sk Ek rrk q6 => ?_, fun x cls dd H' F' Γ' h => h.elim⟩
      obtain ⟨kk, ek, q6⟩ := q6
      subst ek
      have evk : vk = kV kk := kD_rep rrk
      refine ⟨_, Fk, Γk, _, noX, Ek, q6, fun v r H6 F6 Γ6 s6 E6 rr q7 => ?_, fun x cls dd H' F' Γ' h => h.elim⟩
      obtain ⟨F7, s7, E7, rr7⟩ := E6.fz rr
      have q7' : match rdf r with
        | some x => I (ds.take i ++ [d]) (putP acc kk x) (wipeG Γ6 vs)
        | none => False := q7
      obtain ⟨c1, c2, c3⟩ := E3.stay E7 dD3 dM
      have E8 := E3.unbase E7
      have c2' : F7 D = none := c2.trans dF3
      have sall : Same F2 F7 := (((s3.trans s5).trans sk).trans s6).trans s7
      have fin : ∀ x, Rep K F7 v x → I (ds.take i ++ [d]) (putP acc kk x) (wipeG Γ6 vs) →
          ∃ kvs k, vk = kV k ∧ H6 D = some (.dK kvs) ∧ kvs.length < sizeLine ∧ ∃ F Γ acc' accV, Same F1 F ∧ EnvR K B F (upd H6 D (.dK (putK kvs k v))) (wipe σ vs) Γ ∧ (upd H6 D (.dK (putK kvs k v))) D = some (.dK accV) ∧ F D = none ∧ ¬ MutAt (wipe σ vs) Γ D ∧ RepD K F accV acc' ∧ acc'.length ≤ i + 1 ∧
            I (ds.take i ++ [d]) acc' Γ := fun x hx hq => by
        have E9 := (E8.poke (o := .dK (putK accV kk v)) hD0 c2' c3).wiped np
        rw [hwip vs ht, wipe2] at E9
        have lp := putP_len acc kk x
        refine ⟨accV, kk, evk, c1, (by rw [rA.len]; omega), F7, _, putP acc kk x, putK accV kk v, s2.trans sall, E9, upd_same, c2', fun z => c3 (hmw _ z), RepD.put kk hx (RepD.mono sall rA), (by omega), hq⟩
      cases r with
      | d x => exact fin x rr7 q7'
      | o l => exact fin (.list l) rr7 q7'
      | b j => exact q7'.elim
  · have e : i = ds.length := by omega
    subst e
    refine .inl ⟨wk.stop H2 fun a o h => E2.ex a o (s2 a o h), ?_⟩
    rw [List.take_length] at q2
    have q2 := li.fin acc Γ2 q2
    have Eb := E1.back s2 nd nm E2
    have hmu : ∀ (j : Nat) (s : Sl) (m : List PyData), (backG Γ1 Γ2 vs)[j]? = some s → s.mu = some m → σ[j]? ≠ some (some (V.ref D)) := fun j s m a1 a2 a3 => by
      have nj : j ∉ vs ∧ Γ2[j]? = some s := backG_at nm (by
        have := lt_of_get a1
        rw [← Eb.len, E1.len] at this
        exact this) a1 a2
      exact dM ⟨j, s, m, nj.2, a2, by rw [wipe_out nj.1]; assumption⟩
    have sF : Same F2 (upd F2 D (.dK accV)) := same_upd dF
    have Ef : EnvR K B (upd F2 D (.dK accV)) H2 σ (backG Γ1 Γ2 vs) := Eb.grow (Same.id H2) sF (fun a u q => by
        by_cases ha : a = D
        · subst ha
          rw [upd_same] at q
          rw [dD, q]
        · rw [upd_ne ha] at q
          exact Eb.ex a u q) (fun j s m q q1 q2 q3 => by
        have : q ≠ D := fun z => hmu j s m q1 q2 (by rw [q3, z])
        rw [upd_ne this]
        exact (Eb.muH q1 q2 q3).1) (fun a o q => upd_ne (ne_of_none q hD0))
    exact k (.ref D) (.d (dicD acc)) H2 _ _ ((s1.trans s2).trans sF) Ef (rep_dic.mpr ⟨D, accV, rfl, upd_same, RepD.mono sF rA⟩) q2
theorem de_dc {scope : Scope} {own : List (Str × Nat)} (hc : X.calm = true) (hN : X.N.Nodup) (hi : DI X W tg iter wi) (ok : BlkOk X.N X.env.scope scope own)
    (hg : ∀ (s : Shared) (H : Hp) (C : Addr) (cl : List (Str × Addr)) (fp : List Addr), PG (X.blk s H scope (PySem.compEnvC scope cl C X.env) fp) tg (gOf X.K t)) (ht : ∀ (s : Shared) (H : Hp) (C : Addr) (cl : List (Str × Addr)) (fp : List Addr), DTs (X.blk s H scope (PySem.compEnvC scope cl C X.env) fp) WF ifs cond)
    (hk : ∀ (s : Shared) (H : Hp) (C : Addr) (cl : List (Str × Addr)) (fp : List Addr), DE (X.blk s H scope (PySem.compEnvC scope cl C X.env) fp) WF kx kw)
    (he : ∀ (s : Shared) (H : Hp) (C : Addr) (cl : List (Str × Addr)) (fp : List Addr), DE (X.blk s H scope (PySem.compEnvC scope cl C X.env) fp) WF vx vw) (nd : (own.map (·.2)).Nodup := by decide) (hsl : ∀ i ∈ t.slots, i ∈ own.map (·.2) := by decide) (hs : ∀ x, foldedSetIterable iter X.env x = pure x := by intro _; rfl) :
    DE X W (.DictComp kx vx [⟨tg, iter, ifs, 0⟩] scope pos) (wDc wi t cond kw vw (own.map (·.2))) :=
  de_of (pe_dc hc hN hi.pi ok hg (fun s H C cl fp => (ht s H C cl fp).pts) (fun s H C cl fp => (hk s H C cl fp).pe) (fun s H C cl fp => (he s H C cl fp).pe) hs) fun _ _ _ h => dc_go nd hsl h
end
/-! ### k in d, d[k], d.get(k, x) -/
def wDin (neg : Bool) (wa wd : WE) : WE := fun Γ Q X => wa Γ (fun ra Γ1 => ∃ k, ra = .d (kD k) ∧ wd Γ1 (fun rb Γ2 => ∃ kvs, rb = .d (dicD kvs) ∧ Q (.d (.bool (neg != (getP kvs k).isSome))) Γ2) X) X
def wDget (wd wa : WE) : WE := fun Γ Q X => wd Γ (fun rb Γ1 => ∃ kvs, rb = .d (dicD kvs) ∧ wa Γ1 (fun ra Γ2 => ∃ k d, ra = .d (kD k) ∧ getP kvs k = some d ∧ Q (.d d) Γ2) X) X
def wDget2 (wd wa wx : WE) : WE := fun Γ Q X => wd Γ (fun rb Γ1 => ∃ kvs, rb = .d (dicD kvs) ∧ wa Γ1 (fun ra Γ2 => ∃ k, ra = .d (kD k) ∧ wx Γ2 (fun rx Γ3 => ∃ x, rdf rx = some x ∧ Q (.d ((getP kvs k).getD x)) Γ3) X) X) X
section
variable {X : Cx} {W : WX} {pos : Pos} {a b c : Expr} {wa wb wc wd : WE}
theorem din_go {K : PySem.W.Frag} {mg : Str → Option Value} {neg : Bool} {σ : St} {H : Hp} {Kn : VK} (h : liftE K mg W (wDin neg wa wd) σ H Kn) :
    liftE K mg W wa σ H fun y H1 => liftE K mg W wd σ H1 fun x H2 => ∃ a o, x = .ref a ∧ DGet H2 a y o ∧ Kn (.bl (neg != o.isSome)) H2 := by
  obtain ⟨B, F, Γ, Q, Xq, E, hw, k, kx⟩ := h
  refine ⟨B, F, Γ, _, Xq, E, hw, fun va ra Ha Fa Γa sa Ea hra ⟨kk, ek, hq⟩ => ?_, kx⟩
  subst ek
  have eva : va = kV kk := kD_rep hra
  subst eva
  refine ⟨B, Fa, Γa, _, Xq, Ea, hq, fun vb rb Hb Fb Γb sb Eb hrb ⟨kvs, eb, hq2⟩ => ?_, kx.mono sa⟩
  subst eb
  obtain ⟨ad, ks, ev, h1, h2⟩ := rep_dic.mp hrb
  refine ⟨ad, valV ks kk, ev, DGet.k (Eb.ex _ _ h1), ?_⟩
  have e : (valV ks kk).isSome = (getP kvs kk).isSome := by
    rcases h2.get kk with ⟨e1, e2⟩ | ⟨d, v, e1, e2, _⟩ <;> rw [e1, e2] <;> rfl
  rw [e]
  exact k _ (.d (.bool _)) Hb Fb Γb (sa.trans sb) Eb rfl hq2
theorem de_din (hu : X.A.units + 1 < cLine) (ha : DE X W a wa) (hd : DE X W b wd) (hm : behindInMarks .In b = false := by rfl) : DE X W (.Compare a [.In] [b] pos) (wDin false wa wd) :=
  de_of (pe_cmp (pc_din hu ha.pe hd.pe) hm) fun σ H Kn h => by
    have := din_go h
    simpa [tDIn] using this
theorem de_dnin (hu : X.A.units + 1 < cLine) (ha : DE X W a wa) (hd : DE X W b wd) (hm : behindInMarks .NotIn b = false := by rfl) : DE X W (.Compare a [.NotIn] [b] pos) (wDin true wa wd) :=
  de_of (pe_cmp (pc_dnotin hu ha.pe hd.pe) hm) fun σ H Kn h => by
    have := din_go h
    simpa [tDNotIn] using this
theorem dinB_go {K : PySem.W.Frag} {mg : Str → Option Value} {neg : Bool} {σ : St} {H : Hp} {Kn : Bool → Hp → Prop} (h : liftT K mg W (wB (wDin neg wa wd)) σ H Kn) :
    liftE K mg W (wDin neg wa wd) σ H fun x H1 => ∃ d, x = .bl d ∧ Kn d H1 := by
  obtain ⟨B, F, Γ, Q, Xq, E, hw, k, kx⟩ := h
  refine ⟨B, F, Γ, _, Xq, E, hw, fun v r H' F' Γ' s E' rr q => ?_, kx⟩
  obtain ⟨c, ec, q⟩ := q
  subst ec
  exact ⟨c, rr, k c H' F' Γ' s E' q⟩
theorem dt_din (hu : X.A.units + 1 < cLine) (ha : DE X W a wa) (hd : DE X W b wd) (hm : behindInMarks .In b = false := by rfl) : DT X W (.Compare a [.In] [b] pos) (wB (wDin false wa wd)) :=
  ⟨(pt_cmp (pc_din hu ha.pe hd.pe) hm).imp fun σ H Kn h => by
    have := din_go (dinB_go h)
    unfold tB
    simpa [tDIn] using this⟩
theorem dt_dnin (hu : X.A.units + 1 < cLine) (ha : DE X W a wa) (hd : DE X W b wd) (hm : behindInMarks .NotIn b = false := by rfl) : DT X W (.Compare a [.NotIn] [b] pos) (wB (wDin true wa wd)) :=
  ⟨(pt_cmp (pc_dnotin hu ha.pe hd.pe) hm).imp fun σ H Kn h => by
    have := din_go (dinB_go h)
    unfold tB
    simpa [tDNotIn] using this⟩
end
end DL

namespace DL
open PySem L2
/-! ### comprehensions with two sources -/
structure In2 (t1 : Tg) (cond1 : WT) (elt : WE) (vs1 : List Nat) (Fin : List PyData → G → Prop) (ds1 : List PyData) (I1 : List PyData → List PyData → G → Prop) : Prop where
  step : ∀ (pre : List PyData) (d : PyData) (post acc : List PyData) (Γ : G), ds1 = pre ++ d :: post → I1 pre acc Γ → lcS t1 cond1 elt vs1 (fun o Γ' => (o.isSome = true → acc.length < sizeLine) ∧ I1 (pre ++ [d]) (acc ++ o.toList) Γ') d Γ
  fin : ∀ acc Γ, I1 ds1 acc Γ → Fin acc Γ
def lc2S (t : Tg) (cond : WT) (wi1 : WI) (t1 : Tg) (cond1 : WT) (elt : WE) (vs vs1 : List Nat) (acc : List PyData) (Kn : List PyData → G → Prop) (d : PyData) (Γ : G) : Prop :=
  wG t d Γ (fun Γ2 => cond Γ2 (fun b Γ3 => if b = true then wi1 Γ3 (fun ds1 Γ4 => noMut Γ4 vs1 ∧ ∃ I1, I1 [] acc (wipeG Γ4 vs1) ∧ In2 t1 cond1 elt vs1 (fun acc1 Γ5 => Kn acc1 (wipeG Γ5 vs)) ds1 I1) noX else Kn acc (wipeG Γ3 vs)) noX)
structure Lc2I (t : Tg) (cond : WT) (wi1 : WI) (t1 : Tg) (cond1 : WT) (elt : WE) (vs vs1 : List Nat) (Fin : List PyData → G → Prop) (ds : List PyData) (I : List PyData → List PyData → G → Prop) : Prop where
  step : ∀ (pre : List PyData) (d : PyData) (post acc : List PyData) (Γ : G), ds = pre ++ d :: post → I pre acc Γ → lc2S t cond wi1 t1 cond1 elt vs vs1 acc (fun acc' Γ' => I (pre ++ [d]) acc' Γ') d Γ
  fin : ∀ acc Γ, I ds acc Γ → Fin acc Γ
def wLc2 (wi : WI) (t : Tg) (cond : WT) (wi1 : WI) (t1 : Tg) (cond1 : WT) (elt : WE) (vs vs1 : List Nat) : WE := fun Γ Q X => wi Γ (fun ds Γ1 => noMut Γ1 vs ∧ ∃ I, I [] [] (wipeG Γ1 vs) ∧ Lc2I t cond wi1 t1 cond1 elt vs vs1 (fun acc Γ2 => Q (.o acc) (backG Γ1 Γ2 vs)) ds I) X
theorem wipe_sub {us vs : List Nat} (h : ∀ i ∈ us, i ∈ vs) (τ : St) : wipe (wipe τ us) vs = wipe τ vs := by
  apply List.ext_getElem?
  intro j
  by_cases hj : j ∈ vs
  · have z : ∀ (τ : St), j < τ.length → (wipe τ vs)[j]? = some none := fun τ hl => by
      have hl' : j < (wipe τ vs).length := by rw [wipe_length]; exact hl
      cases e : (wipe τ vs)[j]? with
      | none => rw [List.getElem?_eq_none_iff] at e; omega
      | some o =>
        cases o with
        | none => rfl
        | some v => exact absurd hj (wipe_some e).2
    by_cases hl : j < τ.length
    · rw [z τ hl, z (wipe τ us) (by rw [wipe_length]; exact hl)]
    · rw [List.getElem?_eq_none (by rw [wipe_length, wipe_length]; omega), List.getElem?_eq_none (by rw [wipe_length]; omega)]
  · rw [wipe_out hj, wipe_out hj, wipe_out fun z => hj (h j z)]
section
variable {X : Cx} {W : WX} {pos : Pos} {tg iter tg1 iter1 elt : Expr} {ifs ifs1 : List Expr} {wi wi1 : WI} {t t1 : Tg} {cond cond1 : WT} {w : WE}
theorem lc2_go {K : PySem.W.Frag} {mg : Str → Option Value} {σ : St} {H : Hp} {Kn : VK} {vs vs1 : List Nat} (nd : vs.Nodup) (nd1 : vs1.Nodup) (ht : ∀ i ∈ t.slots, i ∈ vs) (ht1 : ∀ i ∈ t1.slots, i ∈ vs1) (hv : ∀ i ∈ vs1, i ∈ vs) {tgI : Unit} (h : liftE K mg W (wLc2 wi t cond wi1 t1 cond1 w vs vs1) σ H Kn) :
    tLc2 (liftI K mg W wi) (gOf K t) (liftT K mg WF cond) (liftI K mg WF wi1) (gOf K t1) (liftT K mg WF cond1) (liftE K mg WF w) vs vs1 σ H Kn := by
  obtain ⟨B, F, Γ, Q, Xq, E, hw, k, kx⟩ := h
  refine ⟨B, F, Γ, _, Xq, E, hw, fun J ds H1 F1 Γ1 s1 E1 wk q => ?_, kx⟩
  obtain ⟨nm, I, i0, li⟩ := q
  have np := E1.noPin nm
  intro D hD
  have hDF : F1 D = none := none_back E1.ex hD
  have hD0 : B.H0 D = none := E1.old hD
  refine ⟨fun i m H => m = ds.length - i ∧ i ≤ ds.length ∧ ∃ F Γ acc accV, Same F1 F ∧ EnvR K B F H (wipe σ vs) Γ ∧ H D = some (.lst accV) ∧ F D = none ∧ ¬ MutAt (wipe σ vs) Γ D ∧ Reps K F accV acc ∧
    I (ds.take i) acc Γ, ⟨ds.length, by simp, Nat.zero_le _, F1, _, [], [], Same.id F1, ((E1.wiped np).poke hD0 hDF ?_), upd_same, hDF, ?_, rfl, i0⟩, ?_⟩
  · rintro ⟨i, s, l, a1, a2, a3⟩
    obtain ⟨_, ws, c, _⟩ := (E1.wiped np).muH a1 a2 a3
    rw [hD] at c; cases c
  · rintro ⟨i, s, l, a1, a2, a3⟩
    obtain ⟨_, ws, c, _⟩ := (E1.wiped np).muH a1 a2 a3
    rw [hD] at c; cases c
  rintro i m H2 ⟨rfl, hi, F2, Γ2, acc, accV, s2, E2, dD, dF, dM, rA, q2⟩
  by_cases hlt : i < ds.length
  · refine .inr ⟨wk.go i H2 (fun a o h => E2.ex a o (s2 a o h)) hlt, fun H => ∃ F Γ acc accV, Same F1 F ∧ EnvR K B F H (wipe σ vs) Γ ∧ H D = some (.lst accV) ∧ F D = none ∧ ¬ MutAt (wipe σ vs) Γ D ∧ Reps K F accV acc ∧
      I (ds.take (i + 1)) acc Γ, fun H' hN => ⟨ds.length - (i + 1), by omega, rfl, hlt, hN⟩, fun x H3 y => ?_⟩
    obtain ⟨sH, d, hd, hw⟩ := wk.yld i H2 x H3 (fun a o h => E2.ex a o (s2 a o h)) hlt y
    obtain ⟨F3, s3, fz3, E3, hr⟩ := hw B F2 (wipe σ vs) Γ2 s2 E2
    have ed : ds = ds.take i ++ d :: ds.drop (i + 1) := by
      rw [List.getElem?_eq_getElem hlt] at hd
      rw [← Option.some.inj hd]
      simp
    have et : ds.take (i + 1) = ds.take i ++ [d] := by
      rw [List.getElem?_eq_getElem hlt] at hd
      rw [← Option.some.inj hd]
      exact (List.take_append_getElem hlt).symm
    rw [et]
    have q3 := li.step _ d _ acc Γ2 ed q2
    unfold lc2S at q3
    have dD3 : H3 D = some (.lst accV) := sH D _ dD
    have dF3 : F3 D = none := (fz3 D _ dD).trans dF
    refine g_go E3.rebase hr q3 fun σ4 Γ4 E4 hwip q4 => ⟨by rw [hwip vs ht, wipe2], ?_⟩
    have ew : wipe σ4 vs = wipe σ vs := by rw [hwip vs ht, wipe2]
    have hmw : ∀ Γ', MutAt (wipe σ vs) (wipeG Γ' vs) D → MutAt σ4 Γ' D := fun Γ' z => mut_wipe (us := vs) (τ := σ4) (by rw [ew]; exact z)
    refine ⟨_, F3, Γ4, _, noX, E4, q4, fun b H5 F5 Γ5 s5 E5 q5 => ?_, fun x cls dd H' F' Γ' h => h.elim⟩
    cases b with
    | false =>
      obtain ⟨c1, c2, c3⟩ := E3.stay E5 dD3 dM
      have E6 := (E3.unbase E5).wiped np
      rw [hwip vs ht, wipe2] at E6
      have q5' : I (ds.take i ++ [d]) acc (wipeG Γ5 vs) := q5
      refine ⟨F5, _, acc, accV, (s2.trans s3).trans s5, E6, c1, c2.trans dF3, fun z => c3 (hmw _ z), Reps.mono (s3.trans s5) _ _ rA, q5'⟩
    | true =>
      have q5' : wi1 Γ5 (fun ds1 Γ4 => noMut Γ4 vs1 ∧ ∃ I1, I1 [] acc (wipeG Γ4 vs1) ∧ In2 t1 cond1 w vs1 (fun acc1 Γ5 => I (ds.take i ++ [d]) acc1 (wipeG Γ5 vs)) ds1 I1) noX := q5
      refine ⟨_, F5, Γ5, _, noX, E5, q5', fun J1 ds1 H6 F6 Γ6 s6 E6 wk1 q6 => ?_, fun x cls dd H' F' Γ' h => h.elim⟩
      obtain ⟨nm1, I1, j0, lj⟩ := q6
      obtain ⟨c1, c2, c3⟩ := E3.stay E6 dD3 dM
      have E7 := E3.unbase E6
      have np1 := E7.noPin nm1
      have dF6 : F6 D = none := c2.trans dF3
      have sall : Same F2 F6 := (s3.trans s5).trans s6
      refine ⟨fun j k H => k = ds1.length - j ∧ j ≤ ds1.length ∧ ∃ F Γ acc accV, Same F6 F ∧ EnvR K B F H (wipe σ4 vs1) Γ ∧ H D = some (.lst accV) ∧ F D = none ∧ ¬ MutAt (wipe σ4 vs1) Γ D ∧ Reps K F accV acc ∧
        I1 (ds1.take j) acc Γ, ⟨ds1.length, by simp, Nat.zero_le _, F6, _, acc, accV, Same.id F6, E7.wiped np1, c1, dF6, fun z => c3 (mut_wipe (τ := σ4) z), Reps.mono sall _ _ rA, j0⟩, ?_⟩
      rintro j k H8 ⟨rfl, hj, F8, Γ8, acc8, accV8, s8, E8, dD8, dF8, dM8, rA8, q8⟩
      by_cases hlt1 : j < ds1.length
      · refine .inr ⟨wk1.go j H8 (fun a o h => E8.ex a o (s8 a o h)) hlt1, fun H => ∃ F Γ acc accV, Same F6 F ∧ EnvR K B F H (wipe σ4 vs1) Γ ∧ H D = some (.lst accV) ∧ F D = none ∧ ¬ MutAt (wipe σ4 vs1) Γ D ∧ Reps K F accV acc ∧
          I1 (ds1.take (j + 1)) acc Γ, fun H' hN => ⟨ds1.length - (j + 1), by omega, rfl, hlt1, hN⟩, fun x1 H9 y1 => ?_⟩
        obtain ⟨sH1, d1, hd1, hw1⟩ := wk1.yld j H8 x1 H9 (fun a o h => E8.ex a o (s8 a o h)) hlt1 y1
        obtain ⟨F9, s9, fz9, E9, hr1⟩ := hw1 B F8 (wipe σ4 vs1) Γ8 s8 E8
        have ed1 : ds1 = ds1.take j ++ d1 :: ds1.drop (j + 1) := by
          rw [List.getElem?_eq_getElem hlt1] at hd1
          rw [← Option.some.inj hd1]
          simp
        have et1 : ds1.take (j + 1) = ds1.take j ++ [d1] := by
          rw [List.getElem?_eq_getElem hlt1] at hd1
          rw [← Option.some.inj hd1]
          exact (List.take_append_getElem hlt1).symm
        rw [et1]
        have q9 := lj.step _ d1 _ acc8 Γ8 ed1 q8
        unfold lcS at q9
        have dD9 : H9 D = some (.lst accV8) := sH1 D _ dD8
        have dF9 : F9 D = none := (fz9 D _ dD8).trans dF8
        refine g_go E9.rebase hr1 q9 fun σ10 Γ10 E10 hwip1 q10 => ⟨by rw [hwip1 vs1 ht1, wipe2], ?_⟩
        have ew1 : wipe σ10 vs1 = wipe σ4 vs1 := by rw [hwip1 vs1 ht1, wipe2]
        have hmw1 : ∀ Γ', MutAt (wipe σ4 vs1) (wipeG Γ' vs1) D → MutAt σ10 Γ' D := fun Γ' z => mut_wipe (us := vs1) (τ := σ10) (by rw [ew1]; exact z)
        refine ⟨_, F9, Γ10, _, noX, E10, q10, fun b H11 F11 Γ11 s11 E11 q11 => ?_, fun x cls dd H' F' Γ' h => h.elim⟩
        cases b with
        | false =>
          obtain ⟨e1, e2, e3⟩ := E9.stay E11 dD9 dM8
          have E12 := (E9.unbase E11).wiped np1
          rw [hwip1 vs1 ht1, wipe2] at E12
          have q11' : ((none : Option PyData).isSome = true → acc8.length < sizeLine) ∧ I1 (ds1.take j ++ [d1]) (acc8 ++ (none : Option PyData).toList) (wipeG Γ11 vs1) := q11
          have q11b := q11'.2
          rw [Option.toList_none, List.append_nil] at q11b
          refine ⟨F11, _, acc8, accV8, (s8.trans s9).trans s11, E12, e1, e2.trans dF9, fun z => e3 (hmw1 _ z), Reps.mono (s9.trans s11) _ _ rA8, q11b⟩
        | true =>
          have q11' : w Γ11 (fun r Γ4 => match rdf r with
            | some x => ((some x : Option PyData).isSome = true → acc8.length < sizeLine) ∧ I1 (ds1.take j ++ [d1]) (acc8 ++ (some x : Option PyData).toList) (wipeG Γ4 vs1)
            | none => False) noX := q11
          show liftE K mg WF w σ10 H11 _
          refine ⟨_, F11, Γ11, _, noX, E11, q11', fun v r H12 F12 Γ12 s12 E12 rr q12 => ?_, fun x cls dd H' F' Γ' h => h.elim⟩
          obtain ⟨F13, s13, E13, rr13⟩ := E12.fz rr
          have q12' : match rdf r with
            | some x => ((some x : Option PyData).isSome = true → acc8.length < sizeLine) ∧ I1 (ds1.take j ++ [d1]) (acc8 ++ (some x : Option PyData).toList) (wipeG Γ12 vs1)
            | none => False := q12
          obtain ⟨e1, e2, e3⟩ := E9.stay E13 dD9 dM8
          have E14 := E9.unbase E13
          have e2' : F13 D = none := e2.trans dF9
          have sa : Same F8 F13 := ((s9.trans s11).trans s12).trans s13
          have fin : ∀ x, Rep K F13 v x → ((some x : Option PyData).isSome = true → acc8.length < sizeLine) ∧ I1 (ds1.take j ++ [d1]) (acc8 ++ [x]) (wipeG Γ12 vs1) →
              ∃ acc, H12 D = some (.lst acc) ∧ acc.length < sizeLine ∧ ∃ F Γ acc' accV, Same F6 F ∧ EnvR K B F (upd H12 D (.lst (acc ++ [v]))) (wipe σ4 vs1) Γ ∧ (upd H12 D (.lst (acc ++ [v]))) D = some (.lst accV) ∧ F D = none ∧ ¬ MutAt (wipe σ4 vs1) Γ D ∧ Reps K F accV acc' ∧
                I1 (ds1.take j ++ [d1]) acc' Γ := fun x hx hq => by
            have E15 := (E14.poke (o := .lst (accV8 ++ [v])) hD0 e2' e3).wiped np1
            rw [hwip1 vs1 ht1, wipe2] at E15
            exact ⟨accV8, e1, (by rw [rA8.len]; exact hq.1 rfl), F13, _, acc8 ++ [x], accV8 ++ [v], s8.trans sa, E15, upd_same, e2', fun z => e3 (hmw1 _ z), (Reps.mono sa _ _ rA8).append (Reps.one hx), hq.2⟩
          cases r with
          | d x => exact fin x rr13 q12'
          | o l => exact fin (.list l) rr13 q12'
          | b j => exact q12'.elim
      · have e : j = ds1.length := by omega
        subst e
        refine .inl ⟨wk1.stop H8 fun a o h => E8.ex a o (s8 a o h), ?_⟩
        rw [List.take_length] at q8
        have q9 := lj.fin acc8 Γ8 q8
        have E10 := E8.wiped np
        have ew2 : wipe (wipe σ4 vs1) vs = wipe σ vs := by rw [wipe_sub hv, ew]
        rw [ew2] at E10
        refine ⟨F8, _, acc8, accV8, (s2.trans sall).trans s8, E10, dD8, dF8, fun z => dM8 ?_, rA8, q9⟩
        rw [← ew2] at z
        exact mut_wipe (τ := σ4) z
  · have e : i = ds.length := by omega
    subst e
    refine .inl ⟨wk.stop H2 fun a o h => E2.ex a o (s2 a o h), ?_⟩
    rw [List.take_length] at q2
    have q2 := li.fin acc Γ2 q2
    have Eb := E1.back s2 nd nm E2
    refine k (.ref D) (.o acc) H2 F2 _ (s1.trans s2) Eb ⟨D, accV, rfl, dF, dD, rA, hD0, fun j s m a1 a2 a3 => ?_⟩ q2
    have nj : j ∉ vs ∧ Γ2[j]? = some s := backG_at nm (by
      have := lt_of_get a1
      rw [← Eb.len, E1.len] at this
      exact this) a1 a2
    exact dM ⟨j, s, m, nj.2, a2, by rw [wipe_out nj.1]; assumption⟩
theorem de_lc2 {scope : Scope} {own : List (Str × Nat)} {vs1 : List Nat} (hc : X.calm = true) (hN : X.N.Nodup) (hi : DI X W tg iter wi) (ok : BlkOk X.N X.env.scope scope own)
    (hg : ∀ (s : Shared) (H : Hp) (C : Addr) (cl : List (Str × Addr)) (fp : List Addr), PG (X.blk s H scope (PySem.compEnvC scope cl C X.env) fp) tg (gOf X.K t)) (ht : ∀ (s : Shared) (H : Hp) (C : Addr) (cl : List (Str × Addr)) (fp : List Addr), DTs (X.blk s H scope (PySem.compEnvC scope cl C X.env) fp) WF ifs cond)
    (hi1 : ∀ (s : Shared) (H : Hp) (C : Addr) (cl : List (Str × Addr)) (fp : List Addr), DI (X.blk s H scope (PySem.compEnvC scope cl C X.env) fp) WF tg1 iter1 wi1)
    (hg1 : ∀ (s : Shared) (H : Hp) (C : Addr) (cl : List (Str × Addr)) (fp : List Addr), PG (X.blk s H scope (PySem.compEnvC scope cl C X.env) fp) tg1 (gOf X.K t1)) (ht1 : ∀ (s : Shared) (H : Hp) (C : Addr) (cl : List (Str × Addr)) (fp : List Addr), DTs (X.blk s H scope (PySem.compEnvC scope cl C X.env) fp) WF ifs1 cond1)
    (he : ∀ (s : Shared) (H : Hp) (C : Addr) (cl : List (Str × Addr)) (fp : List Addr), DE (X.blk s H scope (PySem.compEnvC scope cl C X.env) fp) WF elt w) (nd : (own.map (·.2)).Nodup := by decide) (nd1 : vs1.Nodup := by decide) (hsl : ∀ i ∈ t.slots, i ∈ own.map (·.2) := by decide) (hsl1 : ∀ i ∈ t1.slots, i ∈ vs1 := by decide) (hv : ∀ i ∈ vs1, i ∈ own.map (·.2) := by decide)
    (hs : ∀ x, foldedSetIterable iter X.env x = pure x := by intro _; rfl) (hs1 : ∀ env x, foldedSetIterable iter1 env x = pure x := by intro _ _; rfl) :
    DE X W (.ListComp elt [⟨tg, iter, ifs, 0⟩, ⟨tg1, iter1, ifs1, 0⟩] scope pos) (wLc2 wi t cond wi1 t1 cond1 w (own.map (·.2)) vs1) :=
  de_of (pe_lc2 hc hN hi.pi ok hv hg (fun s H C cl fp => (ht s H C cl fp).pts) (fun s H C cl fp => (hi1 s H C cl fp).pi) hg1 (fun s H C cl fp => (ht1 s H C cl fp).pts) (fun s H C cl fp => (he s H C cl fp).pe) hs hs1) fun _ _ _ h => lc2_go (tgI := ()) nd nd1 hsl hsl1 hv h
theorem ds_setLc2 {i : Nat} {y : Str} {py spos : Pos} {scope : Scope} {own : List (Str × Nat)} {vs1 : List Nat} (hc : X.calm = true) (hN : X.N.Nodup) (hi : DI X W tg iter wi) (ok : BlkOk X.N X.env.scope scope own)
    (hg : ∀ (s : Shared) (H : Hp) (C : Addr) (cl : List (Str × Addr)) (fp : List Addr), PG (X.blk s H scope (PySem.compEnvC scope cl C X.env) fp) tg (gOf X.K t)) (ht : ∀ (s : Shared) (H : Hp) (C : Addr) (cl : List (Str × Addr)) (fp : List Addr), DTs (X.blk s H scope (PySem.compEnvC scope cl C X.env) fp) WF ifs cond)
    (hi1 : ∀ (s : Shared) (H : Hp) (C : Addr) (cl : List (Str × Addr)) (fp : List Addr), DI (X.blk s H scope (PySem.compEnvC scope cl C X.env) fp) WF tg1 iter1 wi1)
    (hg1 : ∀ (s : Shared) (H : Hp) (C : Addr) (cl : List (Str × Addr)) (fp : List Addr), PG (X.blk s H scope (PySem.compEnvC scope cl C X.env) fp) tg1 (gOf X.K t1)) (ht1 : ∀ (s : Shared) (H : Hp) (C : Addr) (cl : List (Str × Addr)) (fp : List Addr), DTs (X.blk s H scope (PySem.compEnvC scope cl C X.env) fp) WF ifs1 cond1)
    (he : ∀ (s : Shared) (H : Hp) (C : Addr) (cl : List (Str × Addr)) (fp : List Addr), DE (X.blk s H scope (PySem.compEnvC scope cl C X.env) fp) WF elt w)
    (hsw : swapsWith (.ListComp elt [⟨tg, iter, ifs, 0⟩, ⟨tg1, iter1, ifs1, 0⟩] scope pos) (some (.Name y py)) spos.line X.env = pure true := by exact sw_true rfl rfl rfl (by decide +kernel))
    (hy : X.N[i]? = some y := by rfl) (hyl : X.env.scope.names.lookup y = some .local := by rfl) (nd : (own.map (·.2)).Nodup := by decide) (nd1 : vs1.Nodup := by decide) (hsl : ∀ i ∈ t.slots, i ∈ own.map (·.2) := by decide) (hsl1 : ∀ i ∈ t1.slots, i ∈ vs1 := by decide) (hv : ∀ i ∈ vs1, i ∈ own.map (·.2) := by decide)
    (hs : ∀ x, foldedSetIterable iter X.env x = pure x := by intro _; rfl) (hs1 : ∀ env x, foldedSetIterable iter1 env x = pure x := by intro _ _; rfl) :
    DS X W (.Assign [.Name y py] (.ListComp elt [⟨tg, iter, ifs, 0⟩, ⟨tg1, iter1, ifs1, 0⟩] scope pos) spos) (wSet (wLc2 wi t cond wi1 t1 cond1 w (own.map (·.2)) vs1) i) :=
  ds_of (ps_setLc2 hc hN hy hyl hsw hi.pi ok hv hg (fun s H C cl fp => (ht s H C cl fp).pts) (fun s H C cl fp => (hi1 s H C cl fp).pi) hg1 (fun s H C cl fp => (ht1 s H C cl fp).pts) (fun s H C cl fp => (he s H C cl fp).pe) hs hs1) fun D σ H h => lc2_go (W := W) (tgI := ()) nd nd1 hsl hsl1 hv (set_go h)
end
end DL

namespace DL
open PySem L2
/-! ### while; n += m (ints) -/
def wWhile (c : WT) (body : WS) : WS := fun Γ P => ∃ I : Nat → G → Prop, (∃ m, I m Γ) ∧ ∀ m Γ, I m Γ → c Γ (fun b Γ1 => if b = true then body Γ1 { P with nx := fun Γ' => ∃ m', m' < m ∧ I m' Γ', ct := fun Γ' => ∃ m', m' < m ∧ I m' Γ', bk := P.nx } else P.nx Γ1) P.xc
def wAugI (i : Nat) (w : WE) : WS := fun Γ P => ∃ a : Int, Γ[i]? = some (.v (.int a)) ∧ w Γ (fun r Γ1 => ∃ b : Int, r = .d (.int b) ∧ stOk Γ1 i ∧ P.nx (Γ1.set i (.v (.int (a + b))))) P.xc
section
variable {X : Cx} {W : WX} {pos : Pos} {c e : Expr} {body : List Stmt} {t : WT} {u : WS} {w : WE}
theorem ds_while (hp : PassesOwn (model X.prog X.w) X.A X.env X.xe) (hc : DT X W c t) (hb : DSs X W body u) : DS X W (.While c body [] pos) (wWhile t u) :=
  ds_of (ps_while hp hc.pt hb.pss) fun D σ H ⟨B, F, Γ, P, E, hw, k⟩ => by
    obtain ⟨I, ⟨m0, i0⟩, turn⟩ := hw
    refine ⟨fun m σ H => ∃ F' Γ, Same F F' ∧ EnvR X.K B F' H σ Γ ∧ I m Γ, ⟨m0, F, Γ, Same.id F, E, i0⟩, ?_⟩
    rintro m σ1 H1 ⟨F1, Γ1, s1, E1, q1⟩
    refine ⟨B, F1, Γ1, _, P.xc, E1, turn m Γ1 q1, fun b H2 F2 Γ2 s2 E2 q2 => ?_, (k.mono s1).xc σ1⟩
    cases b with
    | false => exact k.nx σ1 H2 F2 Γ2 (s1.trans s2) E2 q2
    | true =>
      refine ⟨fun σ H => ∃ m', m' < m ∧ ∃ F' Γ, Same F F' ∧ EnvR X.K B F' H σ Γ ∧ I m' Γ, fun σ' H' h => h, B, F2, Γ2, _, E2, q2, ?_⟩
      have s := s1.trans s2
      exact ⟨fun σ' H' F' Γ' s' E' q => let ⟨m', hm, hi⟩ := q; ⟨m', hm, F', Γ', s.trans s', E', hi⟩, fun v r σ' H' F' Γ' s' => k.rt v r σ' H' F' Γ' (s.trans s'), fun σ' H' F' Γ' s' E' q => k.nx σ' H' F' Γ' (s.trans s') E' q,
        fun σ' H' F' Γ' s' E' q => let ⟨m', hm, hi⟩ := q; ⟨m', hm, F', Γ', s.trans s', E', hi⟩, fun σ' => (k.mono s).xc σ'⟩
theorem ds_augI {i : Nat} {x : Str} {pos' : Pos} (he : DE X W e w) (hN : X.N.Nodup) (hi : X.N[i]? = some x := by rfl) (hx : Loc X.env.scope x := by first | exact .inl rfl | exact .inr rfl) (hf : X.fn x = true ∨ X.env.scope.names.lookup x = some .local := by first | exact .inl rfl | exact .inr rfl | assumption) :
    DS X W (.AugAssign (.Name x pos') .Add e pos) (wAugI i w) :=
  ds_of (ps_aug hN hi hx he.pe ip_add hf) fun D σ H ⟨B, F, Γ, P, E, hw, k⟩ => by
    obtain ⟨a, ha, hw⟩ := hw
    obtain ⟨v, h1, h2⟩ := E.val i _ ha
    cases h2
    refine ⟨.int a, h1, B, F, Γ, _, P.xc, E, hw, fun v r H' F' Γ' s E' rr q => ?_, k.xc σ⟩
    obtain ⟨b, eb, q1, q2⟩ := q
    subst eb
    have ev : v = .int b := rr
    exact ⟨a, b, rfl, ev, k.nx _ H' F' _ s (E'.store (r := .d (.int (a + b))) q1 rfl fun _ z => nomatch z) q2⟩
end
end DL

/-! zip of two, each a list or a tuple -/
namespace DL
open PySem PySem.Spec PyProof.Rows L2
def SqB (K : PySem.W.Frag) (k : Bool) (H : Hp) (a : Addr) (xs : List V) : Prop := match k with
  | true => SqL K H a xs
  | false => SqT K H a xs
def IsB (k : Bool) (h : Heap) (a : Addr) (its : Array Value) : Prop := match k with
  | true => h.IsList a its
  | false => h.IsTuple a its
def IterB (k : Bool) (h : Heap) (it a : Addr) (i : Nat) : Prop := match k with
  | true => h.IsListIter it a i
  | false => h.IsTupleIter it a i
def objB : Bool → Addr → Obj
  | true, a => { cls := .type "list_iterator", data := .fields #[.ref a, .int 0 0] }
  | false, a => { cls := .type "tuple_iterator", data := .fields #[.ref a, .int 0 0] }
theorem IterB.obj {k : Bool} {h : Heap} {it a : Addr} {i : Nat} (x : IterB k h it a i) : ∃ o v, h.get? it = some o ∧ o.data = .fields v := by
  cases k with
  | true => obtain ⟨o, e, _, d⟩ := x; exact ⟨o, _, e, d⟩
  | false => obtain ⟨o, e, _, d⟩ := x; exact ⟨o, _, e, d⟩
theorem IterB.at {k : Bool} {h h' : Heap} {it a : Addr} {i : Nat} (x : IterB k h it a i) (f : ∀ o, h.get? it = some o → h'.get? it = some o) : IterB k h' it a i := by
  cases k with
  | true => exact Heap.IsListIter.at x f
  | false => exact Heap.IsTupleIter.at x f
theorem IsB.lt {k : Bool} {h : Heap} {a : Addr} {its : Array Value} (x : IsB k h a its) : a < h.objs.size := by
  cases k with
  | true => obtain ⟨o, e, _⟩ := x; exact Heap.lt_size e
  | false => obtain ⟨o, e, _⟩ := x; exact Heap.lt_size e
theorem drawsB {prog : Program} {w : World} {A : Around} (hh : A.handled = none) (k : Bool) (it a : Addr) (hne : a ≠ it) (items : Array Value) :
    Draws prog w A it [it, a] items.size (fun i v => items[i]? = some v) (fun i h => IterB k h it a i ∧ IsB k h a items) := by
  cases k with
  | true => exact Draws.list hh it a hne items
  | false => exact Draws.tuple hh it a hne items
theorem beginsB (k : Bool) (a : Addr) (items : Array Value) : Begins (.ref a) (objB k a) fun h => IsB k h a items := by
  cases k with
  | true => exact begins_list a items
  | false => exact begins_tuple a items
theorem iter0B {k : Bool} {h : Heap} {it a : Addr} (x : h.get? it = some (objB k a)) : IterB k h it a 0 := by
  cases k with
  | true => exact ⟨_, x, rfl, rfl⟩
  | false => exact ⟨_, x, rfl, rfl⟩
section
variable {X : Cx} {pins : List (Addr × Obj)} {σ : L2.St} {H : Hp} {s : Shared}
theorem seqB {k : Bool} {a : Addr} {xs : List V} (I : L2.Inv X pins σ H s) (h : SqB X.K k H a xs) : ∃ its, Vals xs its ∧ IsB k s.heap a its.toArray := by
  cases k with
  | true =>
    obtain ⟨its, rv, p, _⟩ := I.list h
    exact ⟨its, rv, p.isList⟩
  | false =>
    obtain ⟨its, rv, p, _⟩ := I.tuple h
    exact ⟨its, rv, p⟩
theorem injB {k : Bool} {a : Addr} {xs ys : List V} (I : L2.Inv X pins σ H s) (h : SqB X.K k H a xs) (h' : SqB X.K k H a ys) : xs = ys := by
  cases k with
  | true => exact I.list_inj h h'
  | false => exact I.tuple_inj h h'
end
def ItzB (K : PySem.W.Frag) (k1 k2 : Bool) (a b : Addr) : It :=
  ⟨fun i H => ∃ (xs ys : List V) (x y : V), SqB K k1 H a xs ∧ SqB K k2 H b ys ∧ xs[i]? = some x ∧ ys[i]? = some y,
    fun i H v H' => ∃ T x y, v = .ref T ∧ H T = none ∧ H' = upd H T (.tup [x, y]) ∧ (∀ xs, SqB K k1 H a xs → xs[i]? = some x) ∧ ∀ ys, SqB K k2 H b ys → ys[i]? = some y,
    fun i H => ∃ xs ys : List V, SqB K k1 H a xs ∧ SqB K k2 H b ys ∧ i ≤ xs.length ∧ i ≤ ys.length ∧ (i = xs.length ∨ i = ys.length)⟩
theorem turn_zipB {P : Program} {w : World} {K : PySem.W.Frag} {elts : List Expr} {kk : Nat} {tpos : Pos} {k1 k2 : Bool} {a b z TI TO i1 i2 : Addr} (D : ZipSep2 z TI TO i1 i2 [i1, a] [i2, b]) (na : a ≠ i1) (nb : b ≠ i2) :
    Turn P w K (.Tuple elts kk tpos) (ItzB K k1 k2 a b) [z, TI, TO, i1, i2] z (fun i h => IsZip h z TI TO .none ∧ IsTupOf2 h TI (.ref i1) (.ref i2) ∧ (∃ x y, IsTupOf2 h TO x y) ∧ IterB k1 h i1 a i ∧ IterB k2 h i2 b i) where
  mem := by simp
  obj := fun i h st c hc => by
    obtain ⟨hz, hTI, ⟨x, y, hTO⟩, h1, h2⟩ := st
    obtain ⟨o1, v1, e1, d1⟩ := h1.obj
    obtain ⟨o2, v2, e2, d2⟩ := h2.obj
    have e' : c = z ∨ c = TI ∨ c = TO ∨ c = i1 ∨ c = i2 := by simpa using hc
    rcases e' with q | q | q | q | q
    · rw [q]; exact ⟨_, hz, fun v q => nomatch q⟩
    · rw [q]; exact ⟨_, hTI, fun v q => nomatch q⟩
    · rw [q]; exact ⟨_, hTO, fun v q => nomatch q⟩
    · rw [q]; exact ⟨o1, e1, fun v q => by rw [d1] at q; cases q⟩
    · rw [q]; exact ⟨o2, e2, fun v q => by rw [d2] at q; cases q⟩
  keep := fun i h h' st k => by
    obtain ⟨hz, hTI, ⟨x, y, hTO⟩, h1, h2⟩ := st
    exact ⟨k z (by simp) _ hz, k TI (by simp) _ hTI, ⟨x, y, k TO (by simp) _ hTO⟩, h1.at fun o q => k i1 (by simp) o q, h2.at fun o q => k i2 (by simp) o q⟩
  item := by
    intro X hP hw hK hc i pins s σ H E I hf st hg
    subst hP hw hK
    obtain ⟨hz, hTI, ⟨x0, y0, hTO⟩, h1, h2⟩ := st
    obtain ⟨xs, ys, x, y, hqx, hqy, hx, hy⟩ := hg
    obtain ⟨its, rv, p⟩ := seqB I hqx
    obtain ⟨its2, rv2, p2⟩ := seqB I hqy
    obtain ⟨u, hu, ru⟩ := rv.get hx
    obtain ⟨u2, hu2, ru2⟩ := rv2.get hy
    have hzl : z < s.heap.objs.size := Heap.lt_size hz
    have lx : i < its.toArray.size := (Array.getElem?_eq_some_iff.mp (by simpa using hu)).1
    have ly : i < its2.toArray.size := (Array.getElem?_eq_some_iff.mp (by simpa using hu2)).1
    refine wpAny_pyNext_zipD2_item D (drawsB (prog := X.prog) (w := X.w) (A := X.A.in1) (I.ok.hd hc) k1 i1 a na its.toArray) (drawsB (prog := X.prog) (w := X.w) (A := X.A.in1) (I.ok.hd hc) k2 i2 b nb its2.toArray) hz hTI hTO ⟨h1, p⟩ ⟨h2, p2⟩ lx ly fun x1 x2 h' tk q1 q2 z' TO' h1' h2' hT hsz hk => ?_
    have ex1 : x1 = u := by
      have : its[i]? = some x1 := by simpa using q1
      rw [hu] at this
      exact (Option.some.inj this).symm
    have ex2 : x2 = u2 := by
      have : its2[i]? = some x2 := by simpa using q2
      rw [hu2] at this
      exact (Option.some.inj this).symm
    subst ex1 ex2
    refine ⟨_, rfl, wpAny_letOwnedTupleGo_zip (s := { s with heap := h', toks := tk }) z' fun h'' z'' sb => ?_⟩
    have hT2 : h''.get? s.heap.objs.size = some { cls := .type "tuple", data := .seq #[x1, x2] } := (sb.2 _ (Nat.ne_of_gt hzl)).trans hT
    have new : ObjOk X.prog X.w (upd H s.heap.objs.size (.tup [x, y])) h'' s.heap.objs.size (.tup [x, y]) :=
      ⟨by show 2 ≤ sizeLine; decide, [x1, x2], .cons ru (.cons ru2 .nil), ⟨_, hT2, rfl, _, rfl⟩⟩
    have I1 : L2.Inv X pins σ (upd H s.heap.objs.size (.tup [x, y])) { s with heap := h'', toks := tk } :=
      I.turnedNew (ch := [z, TI, TO, i1, i2]) (fun c o hb q => (sb.2 c (fun q' => hb (by simp [q']))).trans (hk c o (fun q' => hb (by simp [q'])) (fun q' => hb (by simp [q'])) (fun q' => hb (by simp [q'])) (fun q' => hb (by simp [q'])) q)) hf (Nat.le_refl _) new
    refine ⟨.ref s.heap.objs.size, _, I1, rfl, ⟨_, x, y, rfl, I.hok.fresh (Nat.le_refl _), rfl, fun l hl => by rw [injB I hl hqx]; exact hx, fun l hl => by rw [injB I hl hqy]; exact hy⟩, ⟨z'', ?_, ⟨x1, x2, ?_⟩, ?_, ?_⟩, fun c hcm => ?_⟩
    · exact (sb.2 _ D.TIz).trans (hk _ _ D.TIz D.TITO D.TIi1 D.TIi2 hTI)
    · exact (sb.2 _ D.TOz).trans TO'
    · exact h1'.1.at fun o q => (sb.2 _ (Ne.symm D.zi1)).trans q
    · exact h2'.1.at fun o q => (sb.2 _ (Ne.symm D.zi2)).trans q
    · have hlt : c < s.heap.objs.size := by
        have e' : c = z ∨ c = TI ∨ c = TO ∨ c = i1 ∨ c = i2 := by simpa using hcm
        rcases e' with q | q | q | q | q
        · rw [q]; exact hzl
        · rw [q]; exact Heap.lt_size hTI
        · rw [q]; exact Heap.lt_size hTO
        · rw [q]; obtain ⟨_, _, e1, _⟩ := h1.obj; exact Heap.lt_size e1
        · rw [q]; obtain ⟨_, _, e2, _⟩ := h2.obj; exact Heap.lt_size e2
      rw [upd_ne (Nat.ne_of_lt hlt)]
      exact (hf c hcm).1
  done := by
    intro X hP hw hK hc i pins s σ H E I hf st hg
    subst hP hw hK
    obtain ⟨hz, hTI, ⟨x0, y0, hTO⟩, h1, h2⟩ := st
    obtain ⟨xs, ys, hqx, hqy, le1, le2, hend⟩ := hg
    obtain ⟨its, rv, p⟩ := seqB I hqx
    obtain ⟨its2, rv2, p2⟩ := seqB I hqy
    have l1 := rv.length
    have l2 := rv2.length
    refine wpAny_pyNext_zipD2_end D (drawsB (prog := X.prog) (w := X.w) (A := X.A.in1) (I.ok.hd hc) k1 i1 a na its.toArray) (drawsB (prog := X.prog) (w := X.w) (A := X.A.in1) (I.ok.hd hc) k2 i2 b nb its2.toArray) hz hTI hTO ⟨h1, p⟩ ⟨h2, p2⟩ (by simp; omega) (by simp; omega) (by simp; omega) fun h' tk hk => ⟨rfl, I.turnedL (t' := tk) (ch := [z, TI, TO, i1, i2]) (fun c o hb q =>
      hk c o (fun q' => hb (by simp [q'])) (fun q' => hb (by simp [q'])) (fun q' => hb (by simp [q'])) (fun q' => hb (by simp [q'])) q) hf⟩
  self := fun A i s Q E st h => wpAny_pyIter_zip st.1 h
def iZipB (K : PySem.W.Frag) (ta : TA) : TI := fun σ H R => ta σ H fun vs H1 => ∃ (k1 k2 : Bool) (a b : Addr) (xs ys : List V), vs = [.ref a, .ref b] ∧ SqB K k1 H1 a xs ∧ SqB K k2 H1 b ys ∧ R (ItzB K k1 k2 a b) H1
theorem pi_zipB {X : Cx} {e e2 : Expr} {ta : TA} {p pos tpos : Pos} {elts : List Expr} {kk : Nat} (hg : Gl X "zip") (hm : X.mg "zip" = none) (ha : PA X [e, e2] ta)
    (hs : starEach [e, e2] X.env = (false, eval e X.env) :: starEach [e2] X.env := by rfl) (hpl : (backTo pos (starEach [e2] X.env)).any (·.1) = false := by rfl) :
    PI X (.Tuple elts kk tpos) (.Call (.Name "zip" p) [e, e2] [] pos) (iZipB X.K ta) := by
  refine ⟨fun pins s σ H R I h => ?_⟩
  refine Call_ (ld_blt I hg hm PyProof.Rows.boot_zip (PyProof.Rows.callWith_type1 (thn (ha.run pos pins s σ H _ I h) fun us s1 ⟨vs, H1, I1, r1, q1⟩ => ?_) hs hpl))
  obtain ⟨k1, k2, a, b, xs, ys, ex, hqx, hqy, q⟩ := q1
  subst ex
  cases r1 with
  | cons r rr =>
    cases rr with
    | cons r' rr =>
      cases rr
      cases r
      cases r'
      obtain ⟨its, rv, p1⟩ := seqB I1 hqx
      obtain ⟨its2, rv2, p2⟩ := seqB I1 hqy
      have ne : ∀ {x y : Nat}, x < y ∨ y < x → (x : Addr) ≠ (y : Addr) := fun {x y} h e => by have e : x = y := e; omega
      have nm : ∀ {x y z : Addr}, x ≠ y → x ≠ z → x ∉ [y, z] := fun {x y z} h1 h2 h => by simp [h1, h2] at h
      have la : @LT.lt Nat _ a s1.heap.objs.size := p1.lt
      have lb : @LT.lt Nat _ b s1.heap.objs.size := p2.lt
      refine zip_begins2 (beginsB k1 a its.toArray) (beginsB k2 b its2.toArray) p1 p2 fun h' hz hTI hTO h1 h2 hsz hk => wpAny_pyIter_zip hz ?_
      have I2 : L2.Inv X pins σ H1 { s1 with heap := h' } := I1.kept (t' := s1.toks) hk
      refine ⟨s1.heap.objs.size + 4, [s1.heap.objs.size + 4, s1.heap.objs.size + 2, s1.heap.objs.size + 3, s1.heap.objs.size, s1.heap.objs.size + 1], _, _, H1, rfl, I2, turn_zipB (K := X.K) (k1 := k1) (k2 := k2) (a := a) (b := b) ⟨ne (by omega), ne (by omega), ne (by omega), ne (by omega), by simp, nm (ne (by omega)) (ne (by omega)), nm (ne (by omega)) (ne (by omega)), ne (by omega), by simp, nm (ne (by omega)) (ne (by omega)), nm (ne (by omega)) (ne (by omega)), nm (ne (by omega)) (ne (by omega)), nm (ne (by omega)) (ne (by omega))⟩ (ne (by omega)) (ne (by omega)), ⟨hz, hTI, ⟨_, _, hTO⟩, iter0B h1, iter0B h2⟩, fun c hcm => ?_, q⟩
      have e' : c = s1.heap.objs.size + 4 ∨ c = s1.heap.objs.size + 2 ∨ c = s1.heap.objs.size + 3 ∨ c = s1.heap.objs.size ∨ c = s1.heap.objs.size + 1 := by simpa using hcm
      have hle : s1.heap.objs.size ≤ c := by
        rcases e' with z | z | z | z | z
        · rw [z]; exact Nat.le_add_right _ _
        · rw [z]; exact Nat.le_add_right _ _
        · rw [z]; exact Nat.le_add_right _ _
        · rw [z]; exact Nat.le_refl _
        · rw [z]; exact Nat.le_add_right _ _
      exact I1.fpOk hle (I1.hok.fresh hle)
/-! ### the data's law -/
def zipL : List PyData → List PyData → List PyData
  | x :: l, y :: m => .tuple [x, y] :: zipL l m
  | _, _ => []
theorem zipL_len : ∀ l m : List PyData, (zipL l m).length = min l.length m.length
  | [], m => by simp [zipL]
  | x :: l, [] => by simp [zipL]
  | x :: l, y :: m => by simp only [zipL, List.length_cons, zipL_len l m]; omega
theorem zipL_get : ∀ {l m : List PyData} {i : Nat} {x y : PyData}, l[i]? = some x → m[i]? = some y → (zipL l m)[i]? = some (.tuple [x, y])
  | [], _, _, _, _, h, _ => by simp at h
  | _ :: _, [], _, _, _, _, h => by simp at h
  | a :: l, b :: m, 0, x, y, h1, h2 => by
    simp only [List.getElem?_cons_zero, Option.some.injEq] at h1 h2
    subst h1 h2
    rfl
  | a :: l, b :: m, i + 1, x, y, h1, h2 => by
    simp only [List.getElem?_cons_succ] at h1 h2
    simp only [zipL, List.getElem?_cons_succ]
    exact zipL_get h1 h2
theorem sqB_mono {K : PySem.W.Frag} {k : Bool} {F H : Hp} (s : Same F H) {a : Addr} {xs : List V} (h : SqB K k F a xs) : SqB K k H a xs := by
  cases k with
  | true => exact sql_mono s h
  | false => exact sqt_mono s h
theorem walks_zipB {K : PySem.W.Frag} {F : Hp} {k1 k2 : Bool} {a b : Addr} {vs us : List V} {l m : List PyData} (h : SqB K k1 F a vs) (h' : SqB K k2 F b us) (r : Reps K F vs l) (r' : Reps K F us m) : Walks K F (ItzB K k1 k2 a b) (zipL l m) where
  go := fun i H s hi => by
    rw [zipL_len] at hi
    obtain ⟨v, h1, _⟩ := r.get (List.getElem?_eq_getElem (show i < l.length by omega))
    obtain ⟨u, g1, _⟩ := r'.get (List.getElem?_eq_getElem (show i < m.length by omega))
    exact ⟨vs, us, v, u, sqB_mono s h, sqB_mono s h', h1, g1⟩
  stop := fun H s => ⟨vs, us, sqB_mono s h, sqB_mono s h', by rw [zipL_len, r.len]; omega, by rw [zipL_len, r'.len]; omega, by rw [zipL_len, r.len, r'.len]; omega⟩
  yld := fun i H x H' s hi ⟨T, y, y2, e, hT, eH, hy, hy2⟩ => by
    subst e eH
    rw [zipL_len] at hi
    obtain ⟨v, h1, h2⟩ := r.get (List.getElem?_eq_getElem (show i < l.length by omega))
    obtain ⟨u, g1, g2⟩ := r'.get (List.getElem?_eq_getElem (show i < m.length by omega))
    have hx := hy vs (sqB_mono s h)
    rw [h1] at hx
    cases hx
    have hx2 := hy2 us (sqB_mono s h')
    rw [g1] at hx2
    cases hx2
    refine ⟨same_upd hT, _, zipL_get (List.getElem?_eq_getElem (show i < l.length by omega)) (List.getElem?_eq_getElem (show i < m.length by omega)), fun B F1 σ Γ s1 E1 => ⟨upd F1 T (.tup [y, y2]), same_upd (none_back E1.ex hT), fun b o q => upd_ne (fun z => by rw [z, hT] at q; cases q), E1.lay hT, ?_⟩⟩
    exact rep_tup (none_back E1.ex hT) ⟨_, _, rfl, Rep.mono s1 _ _ h2, _, _, rfl, Rep.mono s1 _ _ g2, rfl⟩
theorem rep_seqB {K : PySem.W.Frag} {H : Hp} {v : V} {d : PyData} {l : List PyData} (h : Rep K H v d) (e : seqD d = some l) : ∃ (k : Bool) (a : Addr) (vs : List V), v = .ref a ∧ SqB K k H a vs ∧ Reps K H vs l := by
  cases d with
  | list m => cases e; obtain ⟨a, vs, e, g1, g2⟩ := h; exact ⟨true, a, vs, e, g1, g2⟩
  | tuple m => cases e; obtain ⟨a, vs, e, g1, g2⟩ := h; exact ⟨false, a, vs, e, g1, g2⟩
  | _ => exact absurd e (by simp [seqD])
def wZip (wa : WA) : WI := fun Γ Q X => wa Γ (fun rs Γ1 => ∃ d d' l m, rs = [.d d, .d d'] ∧ seqD d = some l ∧ seqD d' = some m ∧ Q (zipL l m) Γ1) X
theorem di_zip {X : Cx} {W : WX} {e e2 : Expr} {wa : WA} {p pos tpos : Pos} {elts : List Expr} {kk : Nat} (ha : DA X W [e, e2] wa) (hm : X.mg "zip" = none) (hg : Gl X "zip" := by rfl)
    (hs : starEach [e, e2] X.env = (false, eval e X.env) :: starEach [e2] X.env := by rfl) (hpl : (backTo pos (starEach [e2] X.env)).any (·.1) = false := by rfl) : DI X W (.Tuple elts kk tpos) (.Call (.Name "zip" p) [e, e2] [] pos) (wZip wa) :=
  di_of (pi_zipB hg hm ha.pa hs hpl) fun σ H Kn ⟨B, F, Γ, Q, Xq, E, hw, k, kx⟩ => ⟨B, F, Γ, _, Xq, E, hw, fun vs rs H' F' Γ' s E' rr q => by
    obtain ⟨d, d', l, m, e, hn, hn', q⟩ := q
    subst e
    obtain ⟨v, ws, e1, h1, v2, ws2, e2, h2, h3⟩ := rr
    have : ws2 = [] := h3
    subst this e2 e1
    have h1 : Rep X.K F' v d := h1
    have h2 : Rep X.K F' v2 d' := h2
    obtain ⟨k1, a, vs, ea, g1, g2⟩ := rep_seqB h1 hn
    obtain ⟨k2, b, us, eb, f1, f2⟩ := rep_seqB h2 hn'
    subst ea eb
    exact ⟨k1, k2, a, b, vs, us, rfl, sqB_mono E'.ex g1, sqB_mono E'.ex f1, k _ _ H' F' Γ' s E' (walks_zipB g1 f1 g2 f2) q⟩, kx⟩
end DL

/-! for: a target of a name and a tuple of names -/
namespace DL
open PySem L2
def wGE (i : Nat) (is : List Nat) (d : PyData) (Γ : G) (Q : G → Prop) : Prop := match d with
  | .tuple [x, y] => wG (.n i) x Γ (fun Γ1 => wG (.t is) y Γ1 Q)
  | _ => False
def gE (K : PySem.W.Frag) (i : Nat) (is : List Nat) : TG := gTup K 2 (gCons (gOf K (.n i)) (gCons (gOf K (.t is)) gNil))
theorem gE_go {K : PySem.W.Frag} {B : Bs} {F H : Hp} {σ : St} {Γ : G} (E : EnvR K B F H σ Γ) {i : Nat} {is : List Nat} {v : V} {d : PyData} {Q : G → Prop} {Kn : St → Hp → Prop} (h : Rep K F v d) (hw : wGE i is d Γ Q)
    (k : ∀ σ' Γ', EnvR K B F H σ' Γ' → Q Γ' → Kn σ' H) : gE K i is v σ H Kn := by
  unfold wGE at hw
  split at hw
  · rename_i x y
    obtain ⟨a, vs, e, hq, hr⟩ := h
    obtain ⟨v1, r1, e1, h1, v2, r2, e2, h2, h3⟩ := hr
    have : r2 = [] := h3
    subst this e2 e1
    refine ⟨a, _, e, sqt_mono E.ex hq, rfl, v1, _, rfl, g_go E h1 hw fun σ1 Γ1 E1 _ q1 => ⟨v2, _, rfl, g_go E1 h2 q1 fun σ2 Γ2 E2 _ q2 => ⟨rfl, k σ2 Γ2 E2 q2⟩⟩⟩
  · exact hw.elim
structure ForE (i : Nat) (is : List Nat) (body : WS) (P : Pst) (ds : List PyData) (I : List PyData → G → Prop) : Prop where
  step : ∀ (pre : List PyData) (d : PyData) (post : List PyData) (Γ : G), ds = pre ++ d :: post → I pre Γ → wGE i is d Γ (fun Γ2 => body Γ2 { P with nx := I (pre ++ [d]), ct := I (pre ++ [d]), bk := P.nx })
  fin : ∀ Γ, I ds Γ → P.nx Γ
def wForE (wi : WI) (i : Nat) (is : List Nat) (body : WS) : WS := fun Γ P => wi Γ (fun ds Γ1 => ∃ I, I [] Γ1 ∧ ForE i is body P ds I) P.xc
section
variable {X : Cx} {W : WX} {pos : Pos} {tg iter : Expr} {body : List Stmt} {wi : WI} {i : Nat} {is : List Nat} {u : WS}
theorem pg_e {e1 e2 : Expr} {k : Nat} (hc : X.calm = true) (h1 : PG X e1 (gOf X.K (.n i))) (h2 : PG X e2 (gOf X.K (.t is)))
    (hs : (assignEach [e1, e2] X.env).map (·.2) = assign e1 X.env :: (assignEach [e2] X.env).map (·.2) := by rfl) (hs2 : (assignEach [e2] X.env).map (·.2) = assign e2 X.env :: (assignEach [] X.env).map (·.2) := by rfl)
    (hn : (assignEach [e1, e2] X.env).length = 2 := by rfl) (hst : (assignEach [e1, e2] X.env).findIdx? (·.1) = none := by rfl) : PG X (.Tuple [e1, e2] k pos) (gE X.K i is) :=
  pg_tup hc (pgs_cons h1 (pgs_cons h2 pgs_nil hs2) hs) hn hst
theorem ds_forE (hp : PassesOwn (model X.prog X.w) X.A X.env X.xe) (hc : X.calm = true) (hi : DI X W tg iter wi) (hg : PG X tg (gE X.K i is)) (hb : DSs X W body u)
    (hs : ∀ x, foldedSetIterable iter X.env x = pure x := by intro _; rfl) : DS X W (.For tg iter body [] pos) (wForE wi i is u) :=
  ds_of (ps_for hp hc hi.pi hg hb.pss hs) fun D σ H ⟨B, F, Γ, P, E, hw, k⟩ => ⟨B, F, Γ, _, P.xc, E, hw, fun J ds H1 F1 Γ1 s1 E1 wk q => by
    obtain ⟨I, i0, fi⟩ := q
    refine ⟨fun i m σ H => m = ds.length - i ∧ i ≤ ds.length ∧ ∃ F Γ, Same F1 F ∧ EnvR X.K B F H σ Γ ∧ I (ds.take i) Γ, ⟨ds.length, by simp, Nat.zero_le _, F1, Γ1, Same.id F1, E1, i0⟩, ?_⟩
    rintro i m σ2 H2 ⟨rfl, hi, F2, Γ2, s2, E2, q2⟩
    by_cases hlt : i < ds.length
    · refine .inr ⟨wk.go i H2 (fun a o h => E2.ex a o (s2 a o h)) hlt, fun σ H => ∃ F Γ, Same F1 F ∧ EnvR X.K B F H σ Γ ∧ I (ds.take (i + 1)) Γ, fun σ' H' ⟨F, Γ, a, b, c⟩ => ⟨ds.length - (i + 1), by omega, rfl, hlt, F, Γ, a, b, c⟩, fun x H3 y => ?_⟩
      obtain ⟨sH, d, hd, hw⟩ := wk.yld i H2 x H3 (fun a o h => E2.ex a o (s2 a o h)) hlt y
      obtain ⟨F3, s3, _, E3, hr⟩ := hw B F2 σ2 Γ2 s2 E2
      have ed : ds = ds.take i ++ d :: ds.drop (i + 1) := by
        rw [List.getElem?_eq_getElem hlt] at hd
        rw [← Option.some.inj hd]
        simp
      have et : ds.take (i + 1) = ds.take i ++ [d] := by
        rw [List.getElem?_eq_getElem hlt] at hd
        rw [← Option.some.inj hd]
        exact (List.take_append_getElem hlt).symm
      rw [et]
      refine gE_go E3 hr (fi.step _ d _ _ ed q2) fun σ4 Γ4 E4 q4 => ?_
      exact ⟨B, F3, Γ4, _, E4, q4, fun σ' H' F' Γ' s E' q => ⟨F', Γ', (s2.trans s3).trans s, E', q⟩, fun v r σ' H' F' Γ' s => k.rt v r σ' H' F' Γ' (((s1.trans s2).trans s3).trans s), fun σ' H' F' Γ' s => k.nx σ' H' F' Γ' (((s1.trans s2).trans s3).trans s),
        fun σ' H' F' Γ' s E' q => ⟨F', Γ', (s2.trans s3).trans s, E', q⟩, fun σ' => (k.xc σ').mono ((s1.trans s2).trans s3)⟩
    · have e : i = ds.length := by omega
      subst e
      refine .inl ⟨wk.stop H2 fun a o h => E2.ex a o (s2 a o h), k.nx σ2 H2 F2 Γ2 (s1.trans s2) E2 (fi.fin Γ2 ?_)⟩
      rw [List.take_length] at q2
      exact q2, k.xc σ⟩
end
theorem forE_E {i : Nat} {is : List Nat} {body : WS} {P : Pst} {ds : List PyData} {Γ1 : G} {α : Type} (xs : List α) (e : α → PyData) (J : List α → G → Prop) (hds : ds = xs.map e) (i0 : J [] Γ1)
    (step : ∀ pre x post Γ, xs = pre ++ x :: post → J pre Γ → ∀ N : G → Prop, (∀ Γ', J (pre ++ [x]) Γ' → N Γ') → wGE i is (e x) Γ (fun Γ2 => body Γ2 { nx := N, rt := P.rt, bk := P.nx, ct := N, xc := P.xc }))
    (fin : ∀ Γ, J xs Γ → P.nx Γ) : ∃ I, I [] Γ1 ∧ ForE i is body P ds I := by
  refine ⟨fun pre Γ => ∃ ys, ys <+: xs ∧ pre = ys.map e ∧ J ys Γ, ⟨[], List.nil_prefix, rfl, i0⟩, ⟨?_, ?_⟩⟩
  · rintro pre d post Γ q ⟨ys, ⟨zs, hz⟩, rfl, hj⟩
    rw [hds, ← hz, List.map_append] at q
    have q2 := List.append_cancel_left q
    cases zs with
    | nil => simp at q2
    | cons z zs =>
      simp only [List.map_cons, List.cons.injEq] at q2
      obtain ⟨q2, _⟩ := q2
      subst q2
      exact step ys z zs Γ hz.symm hj _ fun Γ' h => ⟨ys ++ [z], ⟨zs, by rw [← hz]; simp⟩, by simp, h⟩
  · rintro Γ ⟨ys, hp, q, hj⟩
    have hl : ys.length = xs.length := by
      have := congrArg List.length (q.symm.trans hds)
      simpa using this
    rw [hp.eq_of_length hl] at hj
    exact fin Γ hj
end DL

/-! d = {}; for target in iter: d.setdefault(k, []).append(v) (or extend) -/
namespace DL
open PySem L2
structure Gr where
  k : Key
  p : Addr
  ws : List V
  xs : List PyData
def accV (gs : List Gr) : List (Key × V) := gs.map fun g => (g.k, V.ref g.p)
def accG (gs : List Gr) : List (Key × List PyData) := gs.map fun g => (g.k, g.xs)
/-- what is laid behind the list at k -/
def addG (acc : List (Key × List PyData)) (k : Key) (ys : List PyData) : List (Key × List PyData) :=
  if (acc.any fun q => decide (q.1 = k)) = true then acc.map (fun q => if q.1 = k then (q.1, q.2 ++ ys) else q) else acc ++ [(k, ys)]
structure GOk (K : PySem.W.Frag) (B : Bs) (F H : Hp) (σ : St) (Γ : G) (D : Addr) (gs : List Gr) : Prop where
  dH : H D = some (.dK (accV gs))
  dF : F D = none
  d0 : B.H0 D = none
  dM : ¬ MutAt σ Γ D
  each : ∀ g ∈ gs, H g.p = some (.lst g.ws) ∧ F g.p = none ∧ B.H0 g.p = none ∧ ¬ MutAt σ Γ g.p ∧ g.p ≠ D ∧ Reps K F g.ws g.xs
  nd : (gs.map (·.p)).Nodup
  kd : (gs.map (·.k)).Nodup
section
variable {K : PySem.W.Frag} {B : Bs} {F F' H H' : Hp} {σ σ' : St} {Γ Γ' : G} {D : Addr} {gs : List Gr}
theorem GOk.grow (g : GOk K B F H σ Γ D gs) (s : Same F F') (sH : Same H H') (fz : ∀ a o, H a = some o → F' a = F a) : GOk K B F' H' σ Γ D gs where
  dH := sH D _ g.dH
  dF := (fz D _ g.dH).trans g.dF
  d0 := g.d0
  dM := g.dM
  each := fun x hx => by
    obtain ⟨h1, h2, h3, h4, h5, h6⟩ := g.each x hx
    exact ⟨sH _ _ h1, (fz _ _ h1).trans h2, h3, h4, h5, Reps.mono s _ _ h6⟩
  nd := g.nd
  kd := g.kd
theorem GOk.stay (E : EnvR K B F H σ Γ) (E' : EnvR K (reB B F H σ Γ) F' H' σ' Γ') (s : Same F F') (g : GOk K B F H σ Γ D gs) : GOk K B F' H' σ' Γ' D gs := by
  obtain ⟨a1, a2, a3⟩ := E.stay E' g.dH g.dM
  refine ⟨a1, a2.trans g.dF, g.d0, a3, fun x hx => ?_, g.nd, g.kd⟩
  obtain ⟨h1, h2, h3, h4, h5, h6⟩ := g.each x hx
  obtain ⟨b1, b2, b3⟩ := E.stay E' h1 h4
  exact ⟨b1, b2.trans h2, h3, b3, h5, Reps.mono s _ _ h6⟩
theorem accV_get {k : Key} : ∀ {gs : List Gr}, (valV (accV gs) k = none ∧ (∀ g ∈ gs, g.k ≠ k)) ∨ ∃ g ∈ gs, g.k = k ∧ valV (accV gs) k = some (V.ref g.p)
  | [] => .inl ⟨rfl, by simp⟩
  | g :: r => by
    by_cases hk : g.k = k
    · exact .inr ⟨g, by simp, hk, valV_pos hk⟩
    · have e : valV (accV (g :: r)) k = valV (accV r) k := valV_neg (p := (g.k, V.ref g.p)) (r := accV r) hk
      rw [e]
      rcases accV_get (k := k) (gs := r) with ⟨h1, h2⟩ | ⟨x, hx, h1, h2⟩
      · exact .inl ⟨h1, fun y hy => by
          rcases List.mem_cons.mp hy with rfl | hy
          · exact hk
          · exact h2 y hy⟩
      · exact .inr ⟨x, List.mem_cons_of_mem _ hx, h1, h2⟩
def putGr (gs : List Gr) (k : Key) (vs : List V) (ys : List PyData) : List Gr := gs.map fun g => if g.k = k then ⟨g.k, g.p, g.ws ++ vs, g.xs ++ ys⟩ else g
theorem putGr_V (gs : List Gr) (k : Key) (vs : List V) (ys : List PyData) : accV (putGr gs k vs ys) = accV gs := by
  unfold accV putGr
  rw [List.map_map]
  apply List.map_congr_left
  intro g _
  simp only [Function.comp]
  split <;> rfl
theorem putGr_p (gs : List Gr) (k : Key) (vs : List V) (ys : List PyData) : (putGr gs k vs ys).map (·.p) = gs.map (·.p) := by
  unfold putGr
  rw [List.map_map]
  apply List.map_congr_left
  intro g _
  simp only [Function.comp]
  split <;> rfl
theorem putGr_k (gs : List Gr) (k : Key) (vs : List V) (ys : List PyData) : (putGr gs k vs ys).map (·.k) = gs.map (·.k) := by
  unfold putGr
  rw [List.map_map]
  apply List.map_congr_left
  intro g _
  simp only [Function.comp]
  split <;> rfl
theorem putGr_G {gs : List Gr} {k : Key} (vs : List V) (ys : List PyData) (h : ∃ g ∈ gs, g.k = k) : accG (putGr gs k vs ys) = addG (accG gs) k ys := by
  obtain ⟨g0, h0, hk⟩ := h
  have ha : ((accG gs).any fun q => decide (q.1 = k)) = true := by
    unfold accG
    rw [List.any_map, List.any_eq_true]
    exact ⟨g0, h0, decide_eq_true hk⟩
  unfold addG
  rw [if_pos ha]
  unfold accG putGr
  rw [List.map_map, List.map_map]
  apply List.map_congr_left
  intro g _
  simp only [Function.comp]
  split <;> rfl
theorem addG_new {gs : List Gr} {k : Key} {ys : List PyData} (h : ∀ g ∈ gs, g.k ≠ k) : addG (accG gs) k ys = accG gs ++ [(k, ys)] := by
  unfold addG
  rw [if_neg]
  unfold accG
  rw [List.any_map, List.any_eq_true]
  rintro ⟨g, hg, e⟩
  exact h g hg (of_decide_eq_true e)
theorem inj_nd {α β : Type} {f : α → β} : ∀ {l : List α}, (l.map f).Nodup → ∀ {x y : α}, x ∈ l → y ∈ l → f x = f y → x = y
  | [], _, _, _, h, _, _ => by cases h
  | a :: l, nd, x, y, hx, hy, e => by
    rw [List.map_cons, List.nodup_cons] at nd
    rcases List.mem_cons.mp hx with rfl | hx
    · rcases List.mem_cons.mp hy with rfl | hy
      · rfl
      · exact absurd (List.mem_map.mpr ⟨y, hy, e.symm⟩) nd.1
    · rcases List.mem_cons.mp hy with rfl | hy
      · exact absurd (show f y ∈ l.map f from List.mem_map.mpr ⟨x, by assumption, e⟩) nd.1
      · exact inj_nd nd.2 hx hy e
/-- the list at k written -/
theorem GOk.write (E : EnvR K B F H σ Γ) (g : GOk K B F H σ Γ D gs) {x : Gr} (hx : x ∈ gs) {vs : List V} {ys : List PyData} (hr : Reps K F vs ys) : EnvR K B F (upd H x.p (.lst (x.ws ++ vs))) σ Γ ∧ GOk K B F (upd H x.p (.lst (x.ws ++ vs))) σ Γ D (putGr gs x.k vs ys) := by
  obtain ⟨h1, h2, h3, h4, h5, h6⟩ := g.each x hx
  refine ⟨E.poke h3 h2 h4, ?_⟩
  have one : ∀ y ∈ gs, y.k = x.k → y = x := fun y hy e => inj_nd g.kd hy hx e
  have oneP : ∀ y ∈ gs, y.p = x.p → y = x := fun y hy e => inj_nd g.nd hy hx e
  refine ⟨by rw [putGr_V, upd_ne (Ne.symm h5)]; exact g.dH, g.dF, g.d0, g.dM, fun z hz => ?_, by rw [putGr_p]; exact g.nd, by rw [putGr_k]; exact g.kd⟩
  obtain ⟨y, hy, rfl⟩ := List.mem_map.mp hz
  obtain ⟨k1, k2, k3, k4, k5, k6⟩ := g.each y hy
  by_cases e : y.k = x.k
  · have := one y hy e
    subst this
    rw [if_pos rfl]
    exact ⟨upd_same, k2, k3, k4, k5, k6.append hr⟩
  · rw [if_neg e]
    exact ⟨by rw [upd_ne (fun z => e (by rw [oneP y hy z]))]; exact k1, k2, k3, k4, k5, k6⟩
/-- a new key -/
theorem GOk.new (E : EnvR K B F H σ Γ) (g : GOk K B F H σ Γ D gs) {k : Key} (hk : ∀ x ∈ gs, x.k ≠ k) {p : Addr} (hp : H p = some (.lst [])) (pF : F p = none) (p0 : B.H0 p = none) (pM : ¬ MutAt σ Γ p) (pn : ∀ x ∈ gs, x.p ≠ p) :
    EnvR K B F (upd H D (.dK (putK (accV gs) k (V.ref p)))) σ Γ ∧ GOk K B F (upd H D (.dK (putK (accV gs) k (V.ref p)))) σ Γ D (gs ++ [⟨k, p, [], []⟩]) := by
  have pD : p ≠ D := fun z => by rw [z, g.dH] at hp; cases hp
  have hn : valV (accV gs) k = none := by
    rcases accV_get (k := k) (gs := gs) with ⟨h1, _⟩ | ⟨x, hx, h1, _⟩
    · exact h1
    · exact absurd h1 (hk x hx)
  refine ⟨E.poke g.d0 g.dF g.dM, ⟨?_, g.dF, g.d0, g.dM, fun z hz => ?_, ?_, ?_⟩⟩
  · rw [upd_same, putK_new _ hn]
    unfold accV
    rw [List.map_append]
    rfl
  · rcases List.mem_append.mp hz with hz | hz
    · obtain ⟨k1, k2, k3, k4, k5, k6⟩ := g.each z hz
      exact ⟨by rw [upd_ne k5]; exact k1, k2, k3, k4, k5, k6⟩
    · rw [List.mem_singleton.mp hz]
      exact ⟨by rw [upd_ne pD]; exact hp, pF, p0, pM, pD, rfl⟩
  · rw [List.map_append, List.nodup_append]
    refine ⟨g.nd, by simp, fun a ha b hb => ?_⟩
    obtain ⟨x, hx, rfl⟩ := List.mem_map.mp ha
    simp only [List.map_cons, List.map_nil, List.mem_singleton] at hb
    subst hb
    exact pn x hx
  · rw [List.map_append, List.nodup_append]
    refine ⟨g.kd, by simp, fun a ha b hb => ?_⟩
    obtain ⟨x, hx, rfl⟩ := List.mem_map.mp ha
    simp only [List.map_cons, List.map_nil, List.mem_singleton] at hb
    subst hb
    exact hk x hx
/-- the dict and its lists are let stand -/
theorem GOk.freeze (E : EnvR K B F H σ Γ) (g : GOk K B F H σ Γ D gs) : ∃ F2, Same F F2 ∧ EnvR K B F2 H σ Γ ∧ Rep K F2 (V.ref D) (dicD ((accG gs).map fun q => (q.1, PyData.list q.2))) := by
  classical
  let F2 : Hp := fun a => if a = D ∨ ∃ x ∈ gs, x.p = a then H a else F a
  have f2D : F2 D = H D := if_pos (.inl rfl)
  have f2p : ∀ x ∈ gs, F2 x.p = H x.p := fun x hx => if_pos (.inr ⟨x, hx, rfl⟩)
  have sF : Same F F2 := fun a o h => by
    show (if _ then _ else _) = _
    split
    · exact E.ex a o h
    · exact h
  have sH : Same F2 H := fun a o h => by
    have h : (if a = D ∨ ∃ x ∈ gs, x.p = a then H a else F a) = some o := h
    split at h
    · exact h
    · exact E.ex a o h
  refine ⟨F2, sF, E.grow (Same.id H) sF sH (fun i s l q h1 h2 h3 => ?_) (fun a o h => ?_), ?_⟩
  · show (if _ then _ else _) = _
    rw [if_neg]
    · exact (E.muH h1 h2 h3).1
    · rintro (z | ⟨x, hx, z⟩)
      · exact g.dM ⟨i, s, l, h1, h2, by rw [h3, z]⟩
      · exact (g.each x hx).2.2.2.1 ⟨i, s, l, h1, h2, by rw [h3, z]⟩
  · show (if _ then _ else _) = _
    rw [if_neg]
    rintro (z | ⟨x, hx, z⟩)
    · rw [z, g.d0] at h; cases h
    · rw [← z, (g.each x hx).2.2.1] at h; cases h
  · refine rep_dic.mpr ⟨D, accV gs, rfl, by rw [f2D]; exact g.dH, ?_⟩
    have all : ∀ ys : List Gr, (∀ x ∈ ys, x ∈ gs) → RepD K F2 (accV ys) ((accG ys).map fun q => (q.1, PyData.list q.2)) := fun ys => by
      induction ys with
      | nil => intro _; exact rfl
      | cons x r ih =>
        intro h
        obtain ⟨k1, k2, k3, k4, k5, k6⟩ := g.each x (h x (by simp))
        exact ⟨V.ref x.p, accV r, rfl, ⟨x.p, x.ws, rfl, SqL.of (by rw [f2p x (h x (by simp))]; exact k1), Reps.mono sF _ _ k6⟩, ih fun y hy => h y (List.mem_cons_of_mem _ hy)⟩
    exact all gs fun x hx => hx
end
/-! the statement -/
def ysApp : R → Option (List PyData) := fun r => (rdf r).map fun x => [x]
def ysExt : R → Option (List PyData)
  | .o l => some l
  | _ => none
/-- what is known of a result -/
def RV (K : PySem.W.Frag) (F H : Hp) (v : V) : R → Prop
  | .d x => Rep K F v x
  | .o l => Rep K F v (.list l) ∧ ∃ p us, v = .ref p ∧ H p = some (.lst us) ∧ Reps K F us l
  | .b _ => False
def _root_.DL.R.isB : R → Bool
  | .b _ => true
  | _ => false
structure GrpI (i : Nat) (t : Tg) (yf : DL.R → Option (List PyData)) (wk wv : WE) (u : WS) (P : Pst) (ds : List PyData) (I : List PyData → List (Key × List PyData) → G → Prop) : Prop where
  step : ∀ (pre : List PyData) (d : PyData) (post : List PyData) (acc : List (Key × List PyData)) (Γ : G), ds = pre ++ d :: post → I pre acc Γ → acc.length < sizeLine ∧ wG t d Γ (fun Γ2 => wk Γ2 (fun rk Γ3 => ∃ k, rk = .d (kD k) ∧ wv Γ3 (fun rv Γ4 => ∃ ys, yf rv = some ys ∧ rv.isB = false ∧ (∀ q ∈ acc, q.2.length + ys.length < sizeLine) ∧ ys.length < sizeLine ∧ I (pre ++ [d]) (addG acc k ys) Γ4) noX) noX)
  fin : ∀ acc Γ, I ds acc Γ → stOk Γ i ∧ u (Γ.set i (.v (dicD (acc.map fun q => (q.1, PyData.list q.2))))) P
def wGrp (i : Nat) (wi : WI) (t : Tg) (yf : DL.R → Option (List PyData)) (wk wv : WE) (u : WS) : WS := fun Γ P => stOk Γ i ∧ wi (Γ.set i .no) (fun ds Γ1 => ∃ I, I [] [] Γ1 ∧ GrpI i t yf wk wv u P ds I) P.xc
section
variable {X : Cx} {W : WX} {pos pos2 ap1 ap2 cp1 cp2 ep dp lp px : Pos} {tg iter kx vx : Expr} {wi : WI} {t : Tg} {wk wv : WE} {u : WS} {i : Nat} {x : Str} {m : Str} {rest : List Stmt}
/-- what the method does to the list -/
def RGrp (K : PySem.W.Frag) (R : V → List V → Hp → VK → Prop) (yf : DL.R → Option (List PyData)) : Prop := ∀ (F H : Hp) (p : Addr) (ws : List V) (v : V) (r : DL.R) (ys : List PyData) (Kn : VK), Same F H → RV K F H v r → yf r = some ys → H p = some (.lst ws) → ws.length + ys.length < sizeLine → ys.length < sizeLine →
  (∀ vs, Reps K F vs ys → Kn .non (upd H p (.lst (ws ++ vs)))) → R (.ref p) [v] H Kn
theorem rgrp_app {K : PySem.W.Frag} : RGrp K rAppend ysApp := fun F H p ws v r ys Kn _ hv hy hp hl _ k => by
  cases r with
  | d x => cases hy; exact ⟨p, ws, v, rfl, rfl, hp, by simp at hl; omega, k [v] (Reps.one hv)⟩
  | o l => cases hy; exact ⟨p, ws, v, rfl, rfl, hp, by simp at hl; omega, k [v] (Reps.one hv.1)⟩
  | b j => exact hv.elim
theorem rgrp_ext {K : PySem.W.Frag} : RGrp K rExtend ysExt := fun F H p ws v r ys Kn _ hv hy hp hl _ k => by
  cases r with
  | o l =>
    cases hy
    obtain ⟨_, p2, us, e1, e2, e3⟩ := hv
    exact ⟨p, p2, ws, us, rfl, by rw [e1], hp, e2, by rw [e3.len]; omega, k us e3⟩
  | d x => cases hy
  | b j => exact hv.elim
theorem grp_go {D0 : Ends} {σ : St} {H : Hp} {R : V → List V → Hp → VK → Prop} {yf : DL.R → Option (List PyData)} (hR : RGrp X.K R yf) (hti : i ∉ t.slots)
    (h : liftS X.K X.mg W (wGrp i wi t yf wk wv u) D0 σ H) :
    ∀ D, H D = none → tFor (liftI X.K X.mg W wi) (gOf X.K t) (fun E σ H => tBM X.K "list" R (tDSetd (tVar i) (liftE X.K X.mg W wk) (liftE X.K X.mg W (wLst wNil))) (tCons (liftE X.K X.mg W wv) tNil) σ H fun _ H1 => E.nx σ H1)
      { D0 with nx := fun σ H => liftS X.K X.mg W u D0 σ H } (σ.set i (some (V.ref D))) (upd H D (.dK [])) := by
  intro D hD
  obtain ⟨B, F, Γ, P, E, ⟨hst, hw⟩, k⟩ := h
  have hDF : F D = none := none_back E.ex hD
  have hD0 : B.H0 D = none := E.old hD
  have E1 : EnvR X.K B F (upd H D (.dK [])) (σ.set i (some (V.ref D))) (Γ.set i .no) := (E.layH hD).setNo _ hst
  have hil : i < σ.length := by rw [E.len]; exact (stOk_lt hst).1
  generalize hσ : σ.set i (some (V.ref D)) = σ0 at E1 ⊢
  generalize hΓ : Γ.set i .no = Γ0 at E1 hw
  have hσ0 : σ0[i]? = some (some (V.ref D)) := by rw [← hσ]; simp [hil]
  have hDM : ¬ MutAt σ0 Γ0 D := by
    rintro ⟨j, s, l, a1, a2, a3⟩
    obtain ⟨_, ws, c, _⟩ := E1.muH a1 a2 a3
    rw [upd_same] at c
    cases c
  have g1 : GOk X.K B F (upd H D (.dK [])) σ0 Γ0 D [] := ⟨upd_same, hDF, hD0, hDM, by simp, by simp, by simp⟩
  refine ⟨reB B F (upd H D (.dK [])) σ0 Γ0, F, Γ0, _, P.xc, E1.rebase, hw, fun J ds H1 F1 Γ1 s1 Ew wk' q => ?_, fun x cls dd H' F' Γ' hx s E' hr => k.xc σ0 x cls dd H' F' Γ' hx s (E1.unbase E') hr⟩
  obtain ⟨I, i0, gi⟩ := q
  have g2 := g1.stay E1 Ew s1
  have E2 := E1.unbase Ew
  refine ⟨fun n m σ2 H2 => m = ds.length - n ∧ n ≤ ds.length ∧ σ2[i]? = some (some (V.ref D)) ∧ ∃ F2 Γ2 gs, Same F1 F2 ∧ EnvR X.K B F2 H2 σ2 Γ2 ∧ GOk X.K B F2 H2 σ2 Γ2 D gs ∧ I (ds.take n) (accG gs) Γ2, ⟨ds.length, by simp, Nat.zero_le _, hσ0, F1, Γ1, [], Same.id F1, E2, g2, i0⟩, ?_⟩
  clear g2 E2 i0 Ew
  rintro n m σ2 H2 ⟨rfl, hn, hs2, F2, Γ2, gs, s2, E2, g2, q2⟩
  by_cases hlt : n < ds.length
  · refine .inr ⟨wk'.go n H2 (fun a o h => E2.ex a o (s2 a o h)) hlt, fun σ H => σ[i]? = some (some (V.ref D)) ∧ ∃ F Γ gs, Same F1 F ∧ EnvR X.K B F H σ Γ ∧ GOk X.K B F H σ Γ D gs ∧ I (ds.take (n + 1)) (accG gs) Γ, fun σ' H' ⟨a, F, Γ, gs, b, c, d, e⟩ => ⟨ds.length - (n + 1), by omega, rfl, hlt, a, F, Γ, gs, b, c, d, e⟩, fun x H3 y => ?_⟩
    obtain ⟨sH, d, hd, hw2⟩ := wk'.yld n H2 x H3 (fun a o h => E2.ex a o (s2 a o h)) hlt y
    obtain ⟨F3, s3, fz3, E3, hr⟩ := hw2 B F2 σ2 Γ2 s2 E2
    have g3 := g2.grow s3 sH fz3
    have ed : ds = ds.take n ++ d :: ds.drop (n + 1) := by
      rw [List.getElem?_eq_getElem hlt] at hd
      rw [← Option.some.inj hd]
      simp
    have et : ds.take (n + 1) = ds.take n ++ [d] := by
      rw [List.getElem?_eq_getElem hlt] at hd
      rw [← Option.some.inj hd]
      exact (List.take_append_getElem hlt).symm
    rw [et]
    obtain ⟨hal, q3⟩ := gi.step _ d _ (accG gs) Γ2 ed q2
    refine g_go E3.rebase hr q3 fun σ4 Γ4 E4 hwip q4 => ?_
    have g4 := g3.stay E3 E4 (Same.id F3)
    have E4' := E3.unbase E4
    have hs4 : σ4[i]? = some (some (V.ref D)) := by
      have h1 := congrArg (fun s : St => s[i]?) (hwip t.slots fun j hj => hj)
      have h1 : (wipe σ4 t.slots)[i]? = (wipe σ2 t.slots)[i]? := h1
      rw [wipe_out hti, wipe_out hti] at h1
      rw [h1]; exact hs2
    refine ⟨V.ref D, hs4, D, rfl, .inl ⟨_, .inl g4.dH⟩, ?_⟩
    refine ⟨reB B F3 H3 σ4 Γ4, F3, Γ4, _, noX, E4'.rebase, q4, fun vk rk Hk Fk Γk sk Ek rrk qk => ?_, fun x cls dd H' F' Γ' h => h.elim⟩
    obtain ⟨kk, ek, qk⟩ := qk
    subst ek
    have evk : vk = kV kk := kD_rep rrk
    subst evk
    have gk := g4.stay E4' Ek sk
    have Ek' := E4'.unbase Ek
    refine ⟨reB B Fk Hk σ4 Γk, Fk, Γk, (fun r Γ' => r = .o [] ∧ Γ' = Γk), noX, Ek'.rebase, ⟨by decide, rfl, rfl⟩, fun vl rl Hl Fl Γl sl El rrl ql => ?_, fun x cls dd H' F' Γ' h => h.elim⟩
    obtain ⟨er, eΓ⟩ := ql
    subst er eΓ
    have gl := gk.stay Ek' El sl
    have El' := Ek'.unbase El
    obtain ⟨p0, vs0, ep, f0, h0, r0, b0, m0⟩ := rrl
    subst ep
    have ev : vs0 = [] := r0
    subst ev
    have p0M : ¬ MutAt σ4 Γl p0 := fun ⟨j, s, l, a1, a2, a3⟩ => m0 j s l a1 a2 a3
    have p0n : ∀ g ∈ gs, g.p ≠ p0 := fun g hg z => by
      obtain ⟨k1, k2, k3, k4, k5, k6⟩ := gk.each g hg
      have no : ¬ OwnAt σ4 Γl g.p := fun ⟨j, l, a1, a2⟩ => k4 ⟨j, _, l, a1, rfl, a2⟩
      rw [← z, reB_not B Fk Hk no, k1] at b0
      cases b0
    have p0B : B.H0 p0 = none := by
      by_cases ho : OwnAt σ4 Γl p0
      · obtain ⟨j, l, a1, a2⟩ := ho
        exact absurd a2 (m0 j _ l a1 rfl)
      · rw [reB_not B Fk Hk ho] at b0
        exact Ek'.old b0
    have cont : ∀ (gs' : List Gr) (H5 : Hp) (x0 : Gr), EnvR X.K B Fl H5 σ4 Γl → GOk X.K B Fl H5 σ4 Γl D gs' → x0 ∈ gs' → x0.k = kk → ((x0.k, x0.xs) ∈ accG gs ∨ x0.xs = []) → (∀ vs ys, accG (putGr gs' kk vs ys) = addG (accG gs) kk ys) →
        tyV X.K "list" (V.ref x0.p) H5 ∧ tCons (liftE X.K X.mg W wv) tNil σ4 H5 fun xs H6 => R (V.ref x0.p) xs H6 fun _ H7 => σ4[i]? = some (some (V.ref D)) ∧ ∃ F Γ gs, Same F1 F ∧ EnvR X.K B F H7 σ4 Γ ∧ GOk X.K B F H7 σ4 Γ D gs ∧ I (ds.take n ++ [d]) (accG gs) Γ := by
      intro gs' H5 x0 E5 g5 hx0 hk0 hb0 hacc
      obtain ⟨k1, k2, k3, k4, k5, k6⟩ := g5.each x0 hx0
      refine ⟨.inl ⟨rfl, _, SqL.of k1⟩, reB B Fl H5 σ4 Γl, Fl, Γl, _, noX, E5.rebase, qk, fun v r H6 F6 Γ6 s6 E6 rr q6 => ?_, fun x cls dd H' F' Γ' h => h.elim⟩
      obtain ⟨ys, hyf, hnb, b1, b2, q6⟩ := q6
      obtain ⟨F7, s7, E7, rr7⟩ := E6.fz rr
      have g7 := g5.stay E5 E7 (s6.trans s7)
      have E7' := E5.unbase E7
      have rep : RV X.K F7 H6 v r := by
        cases r with
        | d x => exact rr7
        | o l =>
          obtain ⟨p2, us, e1, e2, e3, e4, _⟩ := rr
          exact ⟨rr7, p2, us, e1, e3, Reps.mono s7 _ _ e4⟩
        | b j => cases hnb
      obtain ⟨c1, c2, c3, c4, c5, c6⟩ := g7.each x0 hx0
      have hlen : x0.ws.length + ys.length < sizeLine := by
        rw [c6.len]
        rcases hb0 with z | z
        · exact b1 _ z
        · rw [z, List.length_nil, Nat.zero_add]; exact b2
      refine hR F7 H6 x0.p x0.ws v r ys _ E7'.ex rep hyf c1 hlen b2 fun vs hvs => ?_
      obtain ⟨E8, g8⟩ := g7.write E7' hx0 hvs
      refine ⟨hs4, F7, Γ6, putGr gs' x0.k vs ys, ((((s2.trans s3).trans sk).trans sl).trans s6).trans s7, E8, g8, ?_⟩
      rw [hk0, hacc]
      exact q6
    refine ⟨accV gs, kk, gl.dH, rfl, (by unfold accV; unfold accG at hal; rw [List.length_map] at hal ⊢; exact hal), fun v hv => ?_, fun hv => ?_⟩
    · rcases accV_get (k := kk) (gs := gs) with ⟨h1, _⟩ | ⟨g, hg, hgk, h1⟩
      · rw [h1] at hv; cases hv
      · rw [h1] at hv
        cases hv
        exact cont gs Hl g El' gl hg hgk (.inl (List.mem_map.mpr ⟨g, hg, rfl⟩)) fun vs ys => putGr_G vs ys ⟨g, hg, hgk⟩
    · rcases accV_get (k := kk) (gs := gs) with ⟨_, h2⟩ | ⟨g, hg, hgk, h1⟩
      · obtain ⟨E5, g5⟩ := gl.new El' h2 h0 f0 p0B p0M p0n
        refine cont (gs ++ [⟨kk, p0, [], []⟩]) _ ⟨kk, p0, [], []⟩ E5 g5 (by simp) rfl (.inr rfl) fun vs ys => ?_
        rw [addG_new h2]
        unfold accG putGr
        rw [List.map_append, List.map_append, List.map_map]
        congr 1
        · apply List.map_congr_left
          intro g hg
          simp only [Function.comp]
          rw [if_neg (h2 g hg)]
        · simp
      · rw [h1] at hv; cases hv
  · have e : n = ds.length := by omega
    subst e
    rw [List.take_length] at q2
    obtain ⟨hst2, hu⟩ := gi.fin (accG gs) Γ2 q2
    refine .inl ⟨wk'.stop H2 fun a o h => E2.ex a o (s2 a o h), ?_⟩
    obtain ⟨F5, s5, E5, r5⟩ := g2.freeze E2
    have E6 := E5.store (v := V.ref D) (r := .d (dicD ((accG gs).map fun (q : Key × List PyData) => (q.1, PyData.list q.2)))) hst2 r5 fun j z => nomatch z
    have eσ : σ2.set i (some (V.ref D)) = σ2 := by
      apply List.ext_getElem?
      intro j
      by_cases hj : i = j
      · subst hj
        rw [hs2, List.getElem?_set_self (by
          have := List.getElem?_eq_some_iff.mp hs2
          exact this.1)]
      · rw [List.getElem?_set_ne hj]
    rw [eσ] at E6
    exact ⟨B, F5, _, P, E6, hu, k.mono ((s1.trans s2).trans s5)⟩
/-- the two statements -/
theorem dss_grp {body : List Stmt} {R : V → List V → Hp → VK → Prop} {yf : DL.R → Option (List PyData)} (hN : X.N.Nodup) (hi : X.N[i]? = some x) (hx : Loc X.env.scope x) (hs0 : swapsWith (.Dict [] [] dp) (some (.Name x px)) pos.line X.env = pure false)
    (hf : X.fn x = true ∨ X.env.scope.names.lookup x = some .local) (hR : RGrp X.K R yf) (hti : i ∉ t.slots)
    (hp : PassesOwn (model X.prog X.w) X.A X.env X.xe) (hc : X.calm = true) (hit : DI X W tg iter wi) (hg : PG X tg (gOf X.K t))
    (hb : PSs X body (fun E σ H => tBM X.K "list" R (tDSetd (tVar i) (liftE X.K X.mg W wk) (liftE X.K X.mg W (wLst wNil))) (tCons (liftE X.K X.mg W wv) tNil) σ H fun _ H1 => E.nx σ H1))
    (hsi : ∀ y, foldedSetIterable iter X.env y = pure y) (hrest : DSs X W rest u) :
    DSs X W (.Assign [.Name x px] (.Dict [] [] dp) pos :: .For tg iter body [] pos2 :: rest) (wGrp i wi t yf wk wv u) := by
  refine ⟨(pss_cons (ps_set hN hi hx pe_dnewK hs0 hf) (pss_cons (ps_for hp hc hit.pi hg hb hsi) hrest.pss)).imp fun D σ H h => ?_⟩
  exact fun p hpn => grp_go hR hti h p hpn
end
end DL

/-! d[k], d.get(k, x), sorted(d) of dicts that stand still -/
namespace DL
open PySem L2
theorem RepD.keys {K : PySem.W.Frag} {H : Hp} : ∀ {kvs : List (Key × PyData)} {ks : List (Key × V)}, RepD K H ks kvs → ks.map (·.1) = kvs.map (·.1)
  | [], _, h => by rw [show _ = [] from h]; rfl
  | (k, d) :: r, _, ⟨v, rs, e1, h2, h3⟩ => by rw [e1, List.map_cons, List.map_cons, RepD.keys h3]
def wSortedD (w : WE) : WE := fun Γ Q X => w Γ (fun r Γ1 => ∃ kvs ks, r = .d (dicD kvs) ∧ kvs.map (·.1) = ks.map Sum.inr ∧ ks.length < 64 ∧
  ∀ zs : List Str, zs.Perm ks → PyProof.Rows.sortedS zs = true → Q (.o (zs.map .str)) Γ1) X
section
variable {X : Cx} {W : WX} {pos p c : Pos} {a b e : Expr} {wa wb wd w wx : WE}
theorem de_dget (hu : X.A.units + 1 < cLine) (hd : DE X W b wd) (ha : DE X W a wa) (hs : NoSl a := by exact fun _ _ => rfl) : DE X W (.Subscript b a pos) (wDget wd wa) :=
  de_of (pe_dget hu hd.pe ha.pe hs) fun σ H Kn h => by
    obtain ⟨B, F, Γ, Q, Xq, E, hw, k, kx⟩ := h
    refine ⟨B, F, Γ, _, Xq, E, hw, fun vb rb Hb Fb Γb sb Eb hrb ⟨kvs, eb, hq⟩ => ?_, kx⟩
    subst eb
    obtain ⟨ad, ks, ev, h1, h2⟩ := rep_dic.mp hrb
    refine ⟨B, Fb, Γb, _, Xq, Eb, hq, fun va ra Ha Fa Γa sa Ea hra ⟨kk, d, ek, hg, hq2⟩ => ?_, kx.mono sb⟩
    subst ek
    have eva : va = kV kk := kD_rep hra
    subst eva
    rcases h2.get kk with ⟨e1, _⟩ | ⟨d', v, e1, e2, e3⟩
    · rw [e1] at hg; cases hg
    · rw [e1] at hg
      cases hg
      exact ⟨ad, v, ev, by have := DGet.k (k := kk) (Ea.ex _ _ (sa _ _ h1)); rw [e2] at this; exact this, k _ (.d d) Ha Fa Γa (sb.trans sa) Ea (Rep.mono sa _ _ e3) hq2⟩
theorem de_sortedD (he : DE X W e w) (hm : X.mg "sorted" = none) (hc : X.calm = true := by rfl) (g : Gl X "sorted" := by rfl)
    (a1 : starEach [e] X.env = (false, eval e X.env) :: starEach [] X.env := by rfl) (b1 : (backTo c (starEach [] X.env)).any (·.1) = false := by rfl) : DE X W (.Call (.Name "sorted" p) [e] [] c) (wSortedD w) :=
  de_of (pe_callB (p := p) (pos := c) (x := "sorted") (call_sortedD hc) g hm (by decide +kernel) (pa_cons he.pe pa_nil (hs := a1)) (he := a1) (hpl := b1)) fun σ H Kn h => by
    obtain ⟨B, F, Γ, Q, Xq, E, hw, k, kx⟩ := h
    refine ⟨B, F, Γ, _, Xq, E, hw, fun v r H1 F1 Γ1 s1 E1 rr q => ?_, kx⟩
    obtain ⟨kvs, ks, er, hk, hl, q⟩ := q
    subst er
    obtain ⟨ad, vs, ev, h1, h2⟩ := rep_dic.mp rr
    subst ev
    refine ⟨ad, vs, ks, rfl, .inl (E1.ex _ _ h1), by rw [h2.keys, hk], hl, fun ys p' hp hs hn => ?_⟩
    exact k _ (.o (ys.map .str)) _ F1 Γ1 s1 (E1.layH hn) (rr_new E1 hn (reps_strs ys)) (q ys hp hs)
theorem de_dget2 {x : Expr} {apos : Pos} (hu : X.A.units + 1 < cLine) (hd : DE X W b wd) (ha : DE X W a wa) (hx : DE X W x wx) (m : M2 X b "get" apos a x pos) : DE X W (.Call (.Attribute b "get" apos) [a, x] [] pos) (wDget2 wd wa wx) :=
  de_of (pe_dget2 hu hd.pe ha.pe hx.pe m) fun σ H Kn h => by
    obtain ⟨B, F, Γ, Q, Xq, E, hw, k, kx⟩ := h
    refine ⟨B, F, Γ, _, Xq, E, hw, fun vb rb Hb Fb Γb sb Eb hrb ⟨kvs, eb, hq⟩ => ?_, kx⟩
    subst eb
    obtain ⟨ad, ks, ev, h1, h2⟩ := rep_dic.mp hrb
    refine ⟨ad, ev, .inl ⟨_, .inl (Eb.ex _ _ h1)⟩, B, Fb, Γb, _, Xq, Eb, hq, fun va ra Ha Fa Γa sa Ea hra ⟨kk, ek, hq2⟩ => ?_, kx.mono sb⟩
    subst ek
    have eva : va = kV kk := kD_rep hra
    subst eva
    refine ⟨B, Fa, Γa, _, Xq, Ea, hq2, fun vx rx Hx Fx Γx sx Ex hrx ⟨y, hy, hq3⟩ => ?_, kx.mono (sb.trans sa)⟩
    obtain ⟨F7, s7, E7, rr7⟩ := Ex.fz hrx
    have ry : Rep X.K F7 vx y := by
      cases rx with
      | d z => cases hy; exact rr7
      | o l => cases hy; exact rr7
      | b j => cases hy
    have s5 : Same Fb F7 := (sa.trans sx).trans s7
    refine ⟨valV ks kk, DGet.k (E7.ex _ _ (s5 _ _ h1)), ?_⟩
    rcases h2.get kk with ⟨e1, e2⟩ | ⟨d', v, e1, e2, e3⟩
    · rw [e2]
      rw [e1] at hq3
      exact k _ (.d y) Hx F7 Γx (sb.trans s5) E7 ry hq3
    · rw [e2]
      rw [e1] at hq3
      exact k _ (.d d') Hx F7 Γx (sb.trans s5) E7 (Rep.mono s5 _ _ e3) hq3
end
theorem grp_E {i : Nat} {t : Tg} {yf : DL.R → Option (List PyData)} {wk wv : WE} {u : WS} {P : Pst} {ds : List PyData} {Γ1 : G} {α : Type} (xs : List α) (e : α → PyData) (J : List α → List (Key × List PyData) → G → Prop) (hds : ds = xs.map e) (i0 : J [] [] Γ1)
    (step : ∀ pre x post acc Γ, xs = pre ++ x :: post → J pre acc Γ → ∀ N : List (Key × List PyData) → G → Prop, (∀ acc' Γ', J (pre ++ [x]) acc' Γ' → N acc' Γ') → acc.length < sizeLine ∧ wG t (e x) Γ (fun Γ2 => wk Γ2 (fun rk Γ3 => ∃ k, rk = .d (kD k) ∧ wv Γ3 (fun rv Γ4 => ∃ ys, yf rv = some ys ∧ rv.isB = false ∧ (∀ q ∈ acc, q.2.length + ys.length < sizeLine) ∧ ys.length < sizeLine ∧ N (addG acc k ys) Γ4) noX) noX))
    (fin : ∀ acc Γ, J xs acc Γ → stOk Γ i ∧ u (Γ.set i (.v (dicD (acc.map fun q => (q.1, PyData.list q.2))))) P) : ∃ I, I [] [] Γ1 ∧ GrpI i t yf wk wv u P ds I := by
  refine ⟨fun pre acc Γ => ∃ ys, ys <+: xs ∧ pre = ys.map e ∧ J ys acc Γ, ⟨[], List.nil_prefix, rfl, i0⟩, ⟨?_, ?_⟩⟩
  · rintro pre d post acc Γ q ⟨ys, ⟨zs, hz⟩, rfl, hj⟩
    rw [hds, ← hz, List.map_append] at q
    have q2 := List.append_cancel_left q
    cases zs with
    | nil => simp at q2
    | cons z zs =>
      simp only [List.map_cons, List.cons.injEq] at q2
      obtain ⟨q2, _⟩ := q2
      subst q2
      exact step ys z zs acc Γ hz.symm hj (fun acc' Γ' => ∃ ys', ys' <+: xs ∧ ys.map e ++ [e z] = ys'.map e ∧ J ys' acc' Γ') fun acc' Γ' h => ⟨ys ++ [z], ⟨zs, by rw [← hz]; simp⟩, by simp, h⟩
  · rintro acc Γ ⟨ys, hp, q, hj⟩
    have hl : ys.length = xs.length := by
      have := congrArg List.length (q.symm.trans hds)
      simpa using this
    rw [hp.eq_of_length hl] at hj
    exact fin acc Γ hj
/-! what the grouping gives -/
/-- the keys in order of their first, each with all its own -/
def grpL {α : Type} (f : α → Str) (g : α → List PyData) (xs : List α) : List (Key × List PyData) := xs.foldl (fun acc x => addG acc (.inr (f x)) (g x)) []
theorem grpL_snoc {α : Type} (f : α → Str) (g : α → List PyData) (xs : List α) (x : α) : grpL f g (xs ++ [x]) = addG (grpL f g xs) (.inr (f x)) (g x) := by simp [grpL, List.foldl_append]
theorem addG_keys (acc : List (Key × List PyData)) (k : Key) (ys : List PyData) : (k ∈ acc.map (·.1) ∧ (addG acc k ys).map (·.1) = acc.map (·.1)) ∨ (k ∉ acc.map (·.1) ∧ (addG acc k ys).map (·.1) = acc.map (·.1) ++ [k]) := by
  unfold addG
  by_cases h : (acc.any fun q => decide (q.1 = k)) = true
  · rw [if_pos h]
    have hm : k ∈ acc.map (·.1) := by
      obtain ⟨q, hq, e⟩ := List.any_eq_true.mp h
      exact List.mem_map.mpr ⟨q, hq, of_decide_eq_true e⟩
    refine .inl ⟨hm, ?_⟩
    rw [List.map_map]
    apply List.map_congr_left
    intro q _
    simp only [Function.comp]
    split <;> rfl
  · rw [if_neg h]
    have hm : k ∉ acc.map (·.1) := fun z => by
      obtain ⟨q, hq, e⟩ := List.mem_map.mp z
      exact h (List.any_eq_true.mpr ⟨q, hq, decide_eq_true e⟩)
    refine .inr ⟨hm, ?_⟩
    rw [List.map_append]
    rfl
theorem addG_get (acc : List (Key × List PyData)) (k j : Key) (ys : List PyData) : ((addG acc k ys).find? fun q => decide (q.1 = j)).map (·.2) = if j = k then some ((((acc.find? fun q => decide (q.1 = k)).map (·.2)).getD []) ++ ys) else (acc.find? fun q => decide (q.1 = j)).map (·.2) := by
  unfold addG
  induction acc with
  | nil =>
    by_cases hj : j = k
    · subst hj; simp
    · have hj' : ¬ k = j := fun z => hj z.symm
      simp [hj, hj']
  | cons q r ih =>
    by_cases hq : q.1 = k
    · have ha : ((q :: r).any fun q => decide (q.1 = k)) = true := by simp [hq]
      rw [if_pos ha, List.map_cons, if_pos hq, List.find?_cons, List.find?_cons, List.find?_cons]
      by_cases hj : j = k
      · subst hj
        simp [hq]
      · have h1 : ¬ q.1 = j := fun z => hj (z.symm.trans hq)
        simp only [h1, decide_false, hj, if_false]
        have : ∀ l : List (Key × List PyData), ((l.map fun q => if q.1 = k then (q.1, q.2 ++ ys) else q).find? fun q => decide (q.1 = j)).map (·.2) = (l.find? fun q => decide (q.1 = j)).map (·.2) := fun l => by
          induction l with
          | nil => rfl
          | cons x l ih2 =>
            rw [List.map_cons, List.find?_cons, List.find?_cons]
            by_cases hx : x.1 = k
            · have hx2 : ¬ x.1 = j := fun z => hj (z.symm.trans hx)
              rw [if_pos hx]
              simp only [hx2, decide_false]
              exact ih2
            · rw [if_neg hx]
              by_cases hx3 : x.1 = j
              · simp [hx3]
              · simp only [hx3, decide_false]
                exact ih2
        exact this r
    · have ea : ((q :: r).any fun q => decide (q.1 = k)) = (r.any fun q => decide (q.1 = k)) := by simp [hq]
      rw [ea]
      by_cases ha : (r.any fun q => decide (q.1 = k)) = true
      · rw [if_pos ha] at ih ⊢
        rw [List.map_cons, if_neg hq, List.find?_cons, List.find?_cons, List.find?_cons]
        by_cases hj : q.1 = j
        · have hjk : ¬ j = k := fun z => hq (hj.trans z)
          simp [hj, hjk]
        · simp only [hj, decide_false, hq]
          exact ih
      · rw [if_neg ha] at ih ⊢
        rw [List.cons_append, List.find?_cons, List.find?_cons, List.find?_cons]
        by_cases hj : q.1 = j
        · have hjk : ¬ j = k := fun z => hq (hj.trans z)
          simp [hj, hjk]
        · simp only [hj, decide_false, hq]
          exact ih
theorem grpL_get {α : Type} (f : α → Str) (g : α → List PyData) (j : Str) : ∀ xs : List α, (((grpL f g xs).find? fun q => decide (q.1 = .inr j)).map (·.2)).getD [] = ((xs.filter fun x => decide (f x = j)).map g).flatten := by
  intro xs
  generalize hn : xs.length = n
  induction n generalizing xs with
  | zero => rw [List.length_eq_zero_iff.mp hn]; rfl
  | succ n ih =>
    have hne : xs ≠ [] := by intro z; rw [z] at hn; cases hn
    obtain ⟨us, t, rfl⟩ : ∃ us t, xs = us ++ [t] := ⟨xs.dropLast, xs.getLast hne, (List.dropLast_concat_getLast hne).symm⟩
    rw [grpL_snoc, addG_get, List.filter_append, List.map_append, List.flatten_append]
    have h := ih us (by simpa using hn)
    by_cases c : f t = j
    · have c2 : (Sum.inr j : Key) = .inr (f t) := by rw [c]
      rw [if_pos c2, Option.getD_some, ← c2, h]
      simp [c]
    · have c2 : ¬ (Sum.inr j : Key) = .inr (f t) := fun z => c (Sum.inr.inj z).symm
      rw [if_neg c2, h]
      simp [c]
end DL

namespace DL
open PySem L2
/-! ### {..}, the display of texts alone, as a value -/
def dispD (kvs : List (Str × Str)) : List (Key × PyData) := kvs.map fun kv => (Sum.inr kv.1, PyData.str kv.2)
def wDisp (kvs : List (Str × Str)) : WE := fun Γ Q X => Q (.d (dicD (dispD kvs))) Γ
theorem repD_disp {K : PySem.W.Frag} {F : Hp} : ∀ kvs : List (Str × Str), RepD K F (kvOf kvs) (dispD kvs)
  | [] => rfl
  | (k, v) :: r => ⟨V.str v, kvOf r, rfl, rfl, repD_disp r⟩
section
variable {X : Cx} {W : WX} {kvs : List (Str × Str)} {p pos : Pos} {k : Nat} {keys : List (Option Expr)} {values : List Expr}
theorem de_disp (h : PPs X p keys values (trsOf kvs)) (hn : ndB kvs = true) (hall : keys.all (·.isSome) = true) (hl : keys.length = values.length) (h0 : keys ≠ []) (h15 : keys.length ≤ 15) (h16 : kvs.length ≤ 15) :
    DE X W (.Dict keys values p) (wDisp kvs) := by
  refine de_of (pe_disp h hall hl h0 h15) fun σ H Kn ⟨B, F, Γ, Q, Xq, E, hw, kk, kx⟩ => ?_
  intro q hq
  refine tPairs_of ⟨upd_same, kvOf kvs, rfl, by unfold kvOf; rw [List.length_map]; exact h16, ?_⟩
  have e1 : upd (upd H q (.dK [])) q (.dK (mergeK [] (kvOf kvs))) = upd H q (.dK (kvOf kvs)) := by
    have e2 : mergeK [] (kvOf kvs) = kvOf kvs := by
      have := mergeK_nd (more := kvOf kvs) (acc := []) (by
        have hn := of_decide_eq_true (show decide (kvs.map (·.1)).Nodup = true from hn)
        rw [List.nil_append]
        unfold kvOf
        rw [List.map_map]
        have e3 : (fun kv : Str × Str => ((Sum.inr kv.1, V.str kv.2) : Key × V).1) = (fun s : Str => (Sum.inr s : Key)) ∘ (·.1) := rfl
        show (kvs.map ((fun s : Str => (Sum.inr s : Key)) ∘ (·.1))).Nodup
        rw [← List.map_map]
        exact List.Pairwise.map _ (fun a b hab q => hab (Sum.inr.inj q)) hn)
      simpa using this
    rw [e2]
    funext b
    unfold upd
    by_cases hb : b = q
    · simp [hb]
    · simp [hb]
  rw [e1]
  exact kk (.ref q) (.d (dicD (dispD kvs))) _ (upd F q (.dK (kvOf kvs))) Γ (same_upd (none_back E.ex hq)) (E.lay hq) (rep_dic.mpr ⟨q, kvOf kvs, rfl, upd_same, repD_disp kvs⟩) hw
end
end DL
namespace L2
open PySem PySem.Spec PyProof.Rows
/-! ### e[c:].replace(y, z), c, y, z written -/
def PE1 (X : Cx) (e : Expr) (t : TE) : Prop :=
  ∀ (pins : List (Addr × Obj)) (s : Shared) (σ : St) (H : Hp) (Q : VK), Inv X pins σ H s → t σ H Q → wpAny (model X.prog X.w) X.A (eval e X.env) (fun v s1 => 1 ≤ s1.toks ∧ EP X pins σ Q v s1) X.xe s
section
variable {X : Cx} {e o : Expr} {te : TE} {pos p2 cp : Pos} {j : Nat} {c : Int}
theorem pe1_slice {r : V → Option Int → Option Int → Hp → VK → Prop} (hr : SlR X r) (he : PE X e te) : PE1 X (.Subscript e (.Slice (some (.Constant (.int c) j cp)) none none p2) pos) (tSl r te (tPart (tC (.int c))) tNoPart) := by
  intro pins s σ H Q I h
  refine Subscript_ (thn (he.run pins s σ H _ I h) fun v s1 ⟨x, H1, I1, r1, q1⟩ => ?_)
  refine wpAny_Slice ?_
  rw [evalPart_some]
  refine wpAny_Constant_int ?_
  have I2 : Inv X pins σ H1 { s1 with toks := s1.toks + 1 } := I1.tok (s1.toks + 1)
  rw [evalPart_none]
  refine wpAny_pure (wpAny_pure ?_)
  obtain ⟨i, ei, q1⟩ := q1
  have ei' : c = i := by injection ei
  subst ei'
  have I4 : Inv X pins σ H1 { ({ s1 with toks := s1.toks + 1 } : Shared) with heap := s1.heap.push { cls := .type "slice", data := .fields #[.int c s1.toks, .none, .none] } } := I2.kept (t' := s1.toks + 1) fun b ob q => Heap.get?_push_of_some _ q
  obtain ⟨T, id, hT, ht, hg⟩ := hr pins _ σ H1 x v (.int c s1.toks) .none (some c) none s1.heap.objs.size Q I4 r1 (Heap.IsSliceOf.new ..) (.int c s1.toks) .none q1
  have hg2 := PySem.wpAny_toks hg
  refine wpAny_mono (Q := fun v s' => s1.toks + 1 ≤ s'.toks ∧ EP X pins σ Q v s') (E := fun e s' => s1.toks + 1 ≤ s'.toks ∧ X.xe e s') ?_ (fun v s' z => ⟨by omega, z.2⟩) fun _ _ z => z.2
  exact tail_any (ops := [.ref s1.heap.objs.size, v]) ht hT hg2 (by with_unfolding_all rfl)
theorem pe_replC {y z : Str} {j0 j1 : Nat} {c0 c1 apos : Pos} (ho : PE1 X o te) (hyz : (y == z) = false)
    (hst : starEach [.Constant (.str y) j0 c0, .Constant (.str z) j1 c1] X.env = [(false, eval (.Constant (.str y) j0 c0) X.env), (false, eval (.Constant (.str z) j1 c1) X.env)] := by rfl)
    (hbase : attributeBase o "replace" X.env (eval o X.env) = eval o X.env := by rfl) (hline : (apos.endLine == pos.line) = true := by rfl) :
    PE X (.Call (.Attribute o "replace" apos) [.Constant (.str y) j0 c0, .Constant (.str z) j1 c1] [] pos)
      (fun σ H Q => te σ H fun x H1 => ∃ a, x = .str a ∧ a.length + (a.length + 1) * z.length ≤ 16777216 ∧ Q (.str (Txt.replace a y z)) H1) := by
  refine ⟨fun pins s σ H Q I h => ?_⟩
  refine PySem.Call_method2 hbase hst hline (thn (ho pins s σ H _ I h) fun v s1 ⟨ht, x, H1, I1, r1, a, ex, hb, q1⟩ => ?_)
  subst ex
  obtain ⟨tx, e⟩ := r1
  subst e
  refine ⟨"str", _, F.plainAttrs_str, F.slot_str_replace, F.type_str_replace, typeIs_str _ _ _, (fun _ e => nomatch e), Calls.callWith_builtin rfl (Calls.evalArgs_plain (Calls.spliced_cons (Calls.Constant_str ?_)))⟩
  refine Calls.spliced_cons (Calls.Constant_str (Calls.spliced_nil ?_))
  exact PySem.SC.replace (show s1.toks ≠ 0 by omega) (show s1.toks + 1 ≠ 0 by omega) (show s1.toks ≠ s1.toks + 1 by omega) hyz hb fun t' k => ⟨.str (Txt.replace a y z), H1, I1.tok k, ⟨t', rfl⟩, q1⟩
end
end L2

namespace DL
open PySem L2
def wRepl (c : Int) (y z : Str) (w : WE) : WE := fun Γ Q X => w Γ (fun r Γ1 => ∃ a, r = .d (.str a) ∧ a.length ≤ 1000 ∧ Q (.d (.str (Txt.replace (cutS a (some c) none) y z))) Γ1) X
theorem cutS_le (a : Str) (lo hi : Option Int) : (cutS a lo hi).length ≤ a.length := by
  unfold cutS
  simp only [Str.length, List.size_toArray, List.length_take, List.length_drop, Array.length_toList]
  omega
section
variable {X : Cx} {W : WX} {e : Expr} {w : WE} {pos p2 p3 cp apos c0 c1 : Pos} {j j0 j1 : Nat} {c : Int} {y z : Str}
theorem de_repl (he : DE X W e w) (hyz : (y == z) = false) (hz : z.length ≤ 100)
    (hst : starEach [.Constant (.str y) j0 c0, .Constant (.str z) j1 c1] X.env = [(false, eval (.Constant (.str y) j0 c0) X.env), (false, eval (.Constant (.str z) j1 c1) X.env)] := by rfl)
    (hbase : attributeBase (.Subscript e (.Slice (some (.Constant (.int c) j cp)) none none p2) p3) "replace" X.env (eval (.Subscript e (.Slice (some (.Constant (.int c) j cp)) none none p2) p3) X.env) = eval (.Subscript e (.Slice (some (.Constant (.int c) j cp)) none none p2) p3) X.env := by rfl)
    (hline : (apos.endLine == pos.line) = true := by rfl) :
    DE X W (.Call (.Attribute (.Subscript e (.Slice (some (.Constant (.int c) j cp)) none none p2) p3) "replace" apos) [.Constant (.str y) j0 c0, .Constant (.str z) j1 c1] [] pos) (wRepl c y z w) :=
  de_of (pe_replC (pe1_slice sl_str he.pe) hyz hst hbase hline) fun σ H Kn ⟨B, F, Γ, Q, Xq, E, hw, k, kx⟩ => ⟨B, F, Γ, _, Xq, E, hw, fun v r H1 F1 Γ1 s1 E1 rr ⟨a, e1, hl, q⟩ => by
    subst e1
    have h1 := cutS_le a (some c) none
    have h2 : ((cutS a (some c) none).length + 1) * z.length ≤ 1001 * 100 := Nat.mul_le_mul (by omega) hz
    exact ⟨c, rfl, a, rr, Nat.le_trans hl (by decide), cutS a (some c) none, rfl, by omega, k _ (.d (.str (Txt.replace (cutS a (some c) none) y z))) H1 F1 Γ1 s1 E1 rfl q⟩, kx⟩
end
end DL

namespace DL
open PySem L2
def top (i : Nat) : Stmt := PySem.Challenge.pw_layeredwords_k08_lines_with_one_word_mad.main.body.getD i (.Pass ⟨0, 0, 0, 0⟩)
abbrev s_is_sequence : Stmt := top 4
abbrev s_is_letter : Stmt := top 5
abbrev s_has_signs : Stmt := top 6
abbrev s_is_word : Stmt := top 7
abbrev s_is_plain : Stmt := top 8
abbrev s_is_item_word : Stmt := top 9
abbrev s_is_key : Stmt := top 10
abbrev s_is_section : Stmt := top 11
abbrev s_name_of : Stmt := top 12
abbrev s_section_body : Stmt := top 16
abbrev s_when_body : Stmt := top 17
abbrev s_statement_body : Stmt := top 18
abbrev s_told_by : Stmt := top 19
abbrev s_body_of : Stmt := top 20
abbrev s_split_lines : Stmt := top 21
abbrev s_bodies_of : Stmt := top 22
abbrev s_first_bad : Stmt := top 23
abbrev s_statements_in : Stmt := top 24
abbrev s_check_stack : Stmt := top 33
abbrev s_check_text : Stmt := top 34
abbrev s_is_text : Stmt := top 36
abbrev s_lines_of : Stmt := top 37
abbrev s_joined : Stmt := top 38
abbrev s_statements : Stmt := top 39
abbrev s__law_so : Stmt := top 41
abbrev s__law_numbers : Stmt := top 42
abbrev s__law_draw : Stmt := top 43
abbrev s__law_take : Stmt := top 44
abbrev s__law_letters : Stmt := top 45
abbrev s__law_text_fault : Stmt := top 46
abbrev s__law_long_word : Stmt := top 47
abbrev s__law_wrong_word : Stmt := top 48
abbrev s__law_words_line : Stmt := top 49
abbrev s_law : Stmt := top 50
abbrev Rw : PySem.W.OpenRow := PySem.W.OpenLaw.row PySem.Challenge.rw_layeredwords_k08_lines_with_one_word_mad
def t_is_sequence : He.DefD := ⟨("is_sequence", none), "is_sequence", "is_sequence", defArgs s_is_sequence, defBody s_is_sequence, defScope s_is_sequence, [], []⟩
def t_is_letter : He.DefD := ⟨("is_letter", none), "is_letter", "is_letter", defArgs s_is_letter, defBody s_is_letter, defScope s_is_letter, [], []⟩
def t_has_signs : He.DefD := ⟨("has_signs", none), "has_signs", "has_signs", defArgs s_has_signs, defBody s_has_signs, defScope s_has_signs, [], []⟩
def t_is_word : He.DefD := ⟨("is_word", none), "is_word", "is_word", defArgs s_is_word, defBody s_is_word, defScope s_is_word, [], []⟩
def t_is_plain : He.DefD := ⟨("is_plain", none), "is_plain", "is_plain", defArgs s_is_plain, defBody s_is_plain, defScope s_is_plain, [], []⟩
def t_is_item_word : He.DefD := ⟨("is_item_word", none), "is_item_word", "is_item_word", defArgs s_is_item_word, defBody s_is_item_word, defScope s_is_item_word, [], []⟩
def t_is_key : He.DefD := ⟨("is_key", none), "is_key", "is_key", defArgs s_is_key, defBody s_is_key, defScope s_is_key, [], []⟩
def t_is_section : He.DefD := ⟨("is_section", none), "is_section", "is_section", defArgs s_is_section, defBody s_is_section, defScope s_is_section, [], []⟩
def t_name_of : He.DefD := ⟨("name_of", none), "name_of", "name_of", defArgs s_name_of, defBody s_name_of, defScope s_name_of, [], []⟩
def t_section_body : He.DefD := ⟨("section_body", none), "section_body", "section_body", defArgs s_section_body, defBody s_section_body, defScope s_section_body, [], []⟩
def t_when_body : He.DefD := ⟨("when_body", none), "when_body", "when_body", defArgs s_when_body, defBody s_when_body, defScope s_when_body, [], []⟩
def t_statement_body : He.DefD := ⟨("statement_body", none), "statement_body", "statement_body", defArgs s_statement_body, defBody s_statement_body, defScope s_statement_body, [], []⟩
def t_told_by : He.DefD := ⟨("told_by", none), "told_by", "told_by", defArgs s_told_by, defBody s_told_by, defScope s_told_by, [], []⟩
def t_body_of : He.DefD := ⟨("body_of", none), "body_of", "body_of", defArgs s_body_of, defBody s_body_of, defScope s_body_of, [], []⟩
def t_split_lines : He.DefD := ⟨("split_lines", none), "split_lines", "split_lines", defArgs s_split_lines, defBody s_split_lines, defScope s_split_lines, [], []⟩
def t_bodies_of : He.DefD := ⟨("bodies_of", none), "bodies_of", "bodies_of", defArgs s_bodies_of, defBody s_bodies_of, defScope s_bodies_of, [], []⟩
def t_first_bad : He.DefD := ⟨("first_bad", none), "first_bad", "first_bad", defArgs s_first_bad, defBody s_first_bad, defScope s_first_bad, [], []⟩
def t_statements_in : He.DefD := ⟨("statements_in", none), "statements_in", "statements_in", defArgs s_statements_in, defBody s_statements_in, defScope s_statements_in, [], []⟩
def t_check_stack : He.DefD := ⟨("check_stack", none), "check_stack", "check_stack", defArgs s_check_stack, defBody s_check_stack, defScope s_check_stack, [], []⟩
def t_check_text : He.DefD := ⟨("check_text", none), "check_text", "check_text", defArgs s_check_text, defBody s_check_text, defScope s_check_text, [], []⟩
def t_is_text : He.DefD := ⟨("is_text", none), "is_text", "is_text", defArgs s_is_text, defBody s_is_text, defScope s_is_text, [], []⟩
def t_lines_of : He.DefD := ⟨("lines_of", none), "lines_of", "lines_of", defArgs s_lines_of, defBody s_lines_of, defScope s_lines_of, [], []⟩
def t_joined : He.DefD := ⟨("joined", none), "joined", "joined", defArgs s_joined, defBody s_joined, defScope s_joined, [], []⟩
def t_statements : He.DefD := ⟨("statements", none), "statements", "statements", defArgs s_statements, defBody s_statements, defScope s_statements, [], []⟩
def t__law_so : He.DefD := ⟨("_law_so", none), "_law_so", "_law_so", defArgs s__law_so, defBody s__law_so, defScope s__law_so, [], []⟩
def t__law_numbers : He.DefD := ⟨("_law_numbers", none), "_law_numbers", "_law_numbers", defArgs s__law_numbers, defBody s__law_numbers, defScope s__law_numbers, [], []⟩
def t__law_draw : He.DefD := ⟨("_law_draw", none), "_law_draw", "_law_draw", defArgs s__law_draw, defBody s__law_draw, defScope s__law_draw, [], []⟩
def t__law_take : He.DefD := ⟨("_law_take", none), "_law_take", "_law_take", defArgs s__law_take, defBody s__law_take, defScope s__law_take, [], []⟩
def t__law_letters : He.DefD := ⟨("_law_letters", none), "_law_letters", "_law_letters", defArgs s__law_letters, defBody s__law_letters, defScope s__law_letters, [], []⟩
def t__law_text_fault : He.DefD := ⟨("_law_text_fault", none), "_law_text_fault", "_law_text_fault", defArgs s__law_text_fault, defBody s__law_text_fault, defScope s__law_text_fault, [], []⟩
def t__law_long_word : He.DefD := ⟨("_law_long_word", none), "_law_long_word", "_law_long_word", defArgs s__law_long_word, defBody s__law_long_word, defScope s__law_long_word, [], []⟩
def t__law_wrong_word : He.DefD := ⟨("_law_wrong_word", none), "_law_wrong_word", "_law_wrong_word", defArgs s__law_wrong_word, defBody s__law_wrong_word, defScope s__law_wrong_word, [], []⟩
def t__law_words_line : He.DefD := ⟨("_law_words_line", none), "_law_words_line", "_law_words_line", defArgs s__law_words_line, defBody s__law_words_line, defScope s__law_words_line, [], []⟩
def t_law : He.DefD := ⟨("law", none), "law", "law", defArgs s_law, defBody s_law, defScope s_law, [], []⟩
abbrev si_BadValue : Stmt := initOf (top 27)
def ti_BadValue : He.DefD := ⟨("BadValue", some "__init__"), "__init__", "BadValue.__init__", defArgs si_BadValue, defBody si_BadValue, defScope si_BadValue, [], []⟩
abbrev si_BadLine : Stmt := initOf (top 28)
def ti_BadLine : He.DefD := ⟨("BadLine", some "__init__"), "__init__", "BadLine.__init__", defArgs si_BadLine, defBody si_BadLine, defScope si_BadLine, [], []⟩
abbrev si_TooMany : Stmt := initOf (top 29)
def ti_TooMany : He.DefD := ⟨("TooMany", some "__init__"), "__init__", "TooMany.__init__", defArgs si_TooMany, defBody si_TooMany, defScope si_TooMany, [], []⟩
def fnL : List He.DefD := [t_is_sequence, t_is_letter, t_has_signs, t_is_word, t_is_plain, t_is_item_word, t_is_key, t_is_section, t_name_of, t_section_body, t_when_body, t_statement_body, t_told_by, t_body_of, t_split_lines, t_bodies_of, t_first_bad, t_statements_in, t_check_stack, t_check_text, t_is_text, t_lines_of, t_joined, t_statements, t__law_so, t__law_numbers, t__law_draw, t__law_take, t__law_letters, t__law_text_fault, t__law_long_word, t__law_wrong_word, t__law_words_line, t_law, ti_BadValue, ti_BadLine, ti_TooMany]
def faL : List He.Fa := [.glo "is_sequence", .glo "is_letter", .glo "has_signs", .glo "is_word", .glo "is_plain", .glo "is_item_word", .glo "is_key", .glo "is_section", .glo "name_of", .glo "section_body", .glo "when_body", .glo "statement_body", .glo "told_by", .glo "body_of", .glo "split_lines", .glo "bodies_of", .glo "first_bad", .glo "statements_in", .glo "check_stack", .glo "check_text", .glo "is_text", .glo "lines_of", .glo "joined", .glo "statements", .glo "_law_so", .glo "_law_numbers", .glo "_law_draw", .glo "_law_take", .glo "_law_letters", .glo "_law_text_fault", .glo "_law_long_word", .glo "_law_wrong_word", .glo "_law_words_line", .glo "law", .glo "BadValue", .glo "BadLine", .glo "TooMany", .free "isinstance", .free "list", .free "tuple", .free "str", .free "len", .free "all", .free "set", .free "enumerate", .free "min", .free "sum", .free "range", .free "bool", .free "int", .glo "WORDS", .exm "BadValue" "BadValue" true, .exm "BadLine" "BadValue" false, .exm "TooMany" "BadValue" false, .exm "BadValue" "BadLine" false, .exm "BadLine" "BadLine" true, .exm "TooMany" "BadLine" false, .exm "BadValue" "TooMany" false, .exm "BadLine" "TooMany" false, .exm "TooMany" "TooMany" true]
def tsL : List DTab := [("WORDS", [("=", (PyData.str "set")), ("+=", (PyData.str "append")), ("^=", (PyData.str "prepend")), ("-=", (PyData.str "drop")), ("?=", (PyData.str "default"))])]
def esL : List (Str × List Str) := [("BadValue", ["at"]), ("BadLine", ["layer", "at"]), ("TooMany", ["word"])]
def csL : List (Str × PyData) := [("MOST_SIGNS", (PyData.int 40)), ("RESERVED", (PyData.tuple [(PyData.str "unset"), (PyData.str "lock"), (PyData.str "when"), (PyData.str "end")])), ("MOST_WORDS", (PyData.int 4)), ("MOST_WHENS", (PyData.int 20)), ("MOST_LAYERS", (PyData.int 40)), ("MOST_LINES", (PyData.int 2000))]
def namesL : List Str := (["MOST_SIGNS", "MOST_WORDS", "RESERVED", "is_sequence", "is_letter", "has_signs", "is_word", "is_plain", "is_item_word", "is_key", "is_section", "name_of", "WORDS", "MOST_WHENS", "section_body", "when_body", "statement_body", "told_by", "body_of", "split_lines", "bodies_of", "first_bad", "statements_in", "LayerError", "BadValue", "BadLine", "TooMany", "MOST_LAYERS", "MOST_LINES", "check_stack"] : List Str) ++ (["check_text", "is_text", "lines_of", "joined", "statements", "_law_so", "_law_numbers", "_law_draw", "_law_take", "_law_letters", "_law_text_fault", "_law_long_word", "_law_wrong_word", "_law_words_line"] : List Str)
abbrev hk : PySem.W.Hook := hookK 6 tsL esL csL faL fnL
def ob (s : PySem.W.SharedT) : He.AlT := obsKG 6 tsL esL csL faL fnL (HandSHeadRun.getT s)
theorem ob_eq (s : PySem.W.SharedT) : ob s = hk.obs s.abs := obsKG_eq (HandSHeadRun.getT_eq s)
set_option maxHeartbeats 0 in
theorem hdRunF (w : World) : HandSHeadRun.RunEq Rw (PySem.W.view Rw.prog [50]) hk ob 12000 namesL (w.withFollow "special-get-raises" false) := by
  intro os
  kernel_rfl
set_option maxHeartbeats 0 in
theorem hdRunT (w : World) : HandSHeadRun.RunEq Rw (PySem.W.view Rw.prog [50]) hk ob 12000 namesL (w.withFollow "special-get-raises" true) := by
  intro os
  kernel_rfl
theorem run (w : World) : HandSHeadRun.RunEq Rw (PySem.W.view Rw.prog [50]) hk ob 12000 namesL w :=
  PySem.W.byRow2 "special-get-raises" (P := fun w => HandSHeadRun.RunEq Rw (PySem.W.view Rw.prog [50]) hk ob 12000 namesL w) hdRunF hdRunT w
local macro_rules
  | `(tactic| dsimp! only [$args,*] $[$loc]?) => `(tactic| simp (maxSteps := 5000000) only [$args,*, wSeq, wIfS, wRet, wRetN, wNext, wBreak, wCont, wNever, wSet, wAsg, wPar, wExpr, wFor, wApp, wPop, wSetIx, wVar, wBor, wTake, wC, wBin, wNil, wCons, wPrim, wCall, wTup, wLst, wSl, wNone, wSome, wM0, wM1, wB, wAndT, wOrT, wNotT, wAndV, wOrV, wNotV, wIf, wIsi, wIsi2, wNeg, wChain, wSortedSet, X_txl, X_txt, wIt, wIt.rdf, wRng1, wRng2, wLc, wYes, lcS, wipeG, backG, noMut, rd_d, rd_o, rd_b, rdf_d, rdf_o, fz_d, fz_o, fz_b, sl_d, sl_o, ok_d, ok_o, argSl_d, argSl_o, argSl_b, items_l, items_t, items_s, rds, rdF, stOk_eq, ncO_some, nc_v, nc_own, nc_no, stOks, setAll, wG, mutAt, putAt, Sl.mu, Sl.put, argSls, noB, fewB, putB, endP, cellsOf, cellF, List.getElem?_cons_zero, List.getElem?_cons_succ, List.getElem?_nil, List.set_cons_zero, List.set_cons_succ, List.append_eq, List.nil_append, List.cons_append, List.replicate, List.take_succ_cons, List.take_zero, List.take_nil, List.filterMap_cons, List.filterMap_nil, Option.map_some, Option.map_none, List.length_cons, List.length_nil, wExt, rdO_o, rdO_b, wDin, wLc2, lc2S, wAugI, wKin, wKix, wDix, wMinN, wEnum, wZip, wForE, wGE, wDget, wDget2, wSortedD, wLenSet, seqD_l, seqD_t, textsOf_l, textsOf_t, F_add_i, F_add_s, F_add_l, F_add_t, F_int, F_cmp_i, F_cmp_s, F_in_l, F_in_t, F_in_s, F_ix_l, F_ix_t, F_ix_s, F_sl_l, F_sl_t, F_sl_s, F_len_l, F_len_t, F_len_s, F_toInt, F_toStr, F_toTup_l, F_toTup_t, F_toLst_l, F_toLst_t, F_all, F_any, F_split, F_join_l, F_join_t, F_part, F_start, F_end, F_strip, F_sorted_l, F_sorted_t, N_none, N_str, N_int, N_bool, N_tup, N_lst, S_str, S_none, S_int, S_bool, S_tup, S_lst, I_str, I_none, I_int, I_bool, I_tup, I_lst, B_str, B_none, B_int, B_bool, B_tup, B_lst, T_str, T_none, T_int, T_bool, T_tup, T_lst, L_str, L_none, L_int, L_bool, L_tup, L_lst, D_str, D_none, D_int, D_bool, D_tup, D_lst, N_dic, S_dic, I_dic, B_dic, T_dic, L_dic, D_dic, E_ss, E_ii, E_bb, E_ns, E_is, E_bs, E_nn, isA_str, isA_int, isA_bool, isA_tuple, isA_list, isA_dict, fEq, fNe, fIsN, fNotN, eqv_str, eqv_int, eqv_bool, F_sumI, exists_eq_left', exists_eq_left, exists_and_left, R.d.injEq, R.o.injEq, PyData.bool.injEq, PyData.str.injEq, PyData.int.injEq, PyData.tuple.injEq, PyData.list.injEq, List.cons.injEq, Option.some.injEq, and_true, true_and, and_self, Bool.not_true, Bool.not_false, Bool.false_eq_true, Bool.true_eq_false, Bool.true_and, Bool.false_and, Bool.true_or, Bool.false_or, if_true, if_false, reduceIte, reduceCtorEq, not_false_eq_true, ne_eq, true_or, or_true, false_or, or_false, List.map_nil, List.map_cons, Option.toList_some, Option.toList_none, false_and, and_false, Bool.not_eq_true, Bool.or_false, Bool.or_true, Bool.and_true, Bool.and_false] $[$loc]?)
def w_is_sequence : WS := (wRet (wIsi2 (wBor 0) "list" "tuple"))

def seqL : PyData → List PyData
  | .list l => l
  | .tuple l => l
  | _ => []
def isSeq : PyData → Bool
  | .list _ => true
  | .tuple _ => true
  | _ => false
def fs_is_sequence : FS := fun as Q _ => ∃ d, as = [.v d] ∧ Q (.d (.bool (isSeq d))) []
theorem l_is_sequence : ∀ as Q X, fs_is_sequence as Q X → as.length = 1 := by rintro as Q X ⟨d, rfl, _⟩; rfl
theorem m_is_sequence : ∀ as Q X, fs_is_sequence as Q X → w_is_sequence (as ++ List.replicate 0 Sl.no) (endP 1 Q X) := by
  rintro as Q X ⟨d, rfl, h⟩
  have e : (isA "list" d || isA "tuple" d) = isSeq d := by cases d <;> rfl
  simp only [w_is_sequence, wSeq, wIfS, wRet, wRetN, wNext, wBreak, wCont, wNever, wSet, wAsg, wPar, wExpr, wFor, wApp, wPop, wSetIx, wVar, wBor, wTake, wC, wBin, wNil, wCons, wPrim, wCall, wTup, wLst, wSl, wNone, wSome, wM0, wM1, wB, wAndT, wOrT, wNotT, wAndV, wOrV, wNotV, wIf, wIsi, wIsi2, wNeg, wChain, wSortedSet, X_txl, X_txt, wIt, wIt.rdf, wRng1, wRng2, wLc, wYes, lcS, wipeG, backG, noMut, rd_d, rd_o, rd_b, rdf_d, rdf_o, fz_d, fz_o, fz_b, sl_d, sl_o, ok_d, ok_o, argSl_d, argSl_o, argSl_b, items_l, items_t, items_s, rds, rdF, stOk_eq, ncO_some, nc_v, nc_own, nc_no, stOks, setAll, wG, mutAt, putAt, Sl.mu, Sl.put, argSls, noB, fewB, putB, endP, cellsOf, cellF, List.getElem?_cons_zero, List.getElem?_cons_succ, List.getElem?_nil, List.set_cons_zero, List.set_cons_succ, List.append_eq, List.nil_append, List.cons_append, List.replicate, List.take_succ_cons, List.take_zero, List.take_nil, List.filterMap_cons, List.filterMap_nil, Option.map_some, Option.map_none, List.length_cons, List.length_nil, wExt, rdO_o, rdO_b, wDin, wLc2, lc2S, wAugI, wKin, wKix, wDix, wMinN, wEnum, wZip, wForE, wGE, wDget, wDget2, wSortedD, wLenSet, seqD_l, seqD_t, textsOf_l, textsOf_t, e]
  exact ⟨trivial, h⟩

def w_is_letter : WS := (wRet (wOrV (wChain fLe fLe (wC (PyData.str "a")) (wBor 0) (wC (PyData.str "z"))) (wOrV (wChain fLe fLe (wC (PyData.str "A")) (wBor 0) (wC (PyData.str "Z"))) (wChain fLe fLe (wC (PyData.str "0")) (wBor 0) (wC (PyData.str "9"))))))


theorem lt1 (a b : Nat) : (([a] : List Nat) < [b]) ↔ a < b := by
  rw [List.cons_lt_cons_iff]
  constructor
  · rintro (h | ⟨_, h⟩)
    · exact h
    · exact absurd h (List.lt_irrefl _)
  · exact Or.inl
def fs_is_letter : FS := fun as Q _ => ∃ c, as = [.v (.str (sg c))] ∧ Q (.d (.bool (isLetterN c))) []
theorem l_is_letter : ∀ as Q X, fs_is_letter as Q X → as.length = 1 := by rintro as Q X ⟨d, rfl, _⟩; rfl
theorem m_is_letter : ∀ as Q X, fs_is_letter as Q X → w_is_letter (as ++ List.replicate 0 Sl.no) (endP 1 Q X) := by
  rintro as Q X ⟨c, rfl, h⟩
  have e : ∀ (k : Nat) (s : String), (Str.ofString s).cps.toList = [k] → (decide ((sg c).cps.toList < (Str.ofString s).cps.toList) = decide (c < k)) ∧ (decide ((Str.ofString s).cps.toList < (sg c).cps.toList) = decide (k < c)) := fun k s q => by
    rw [q]
    show decide ([c] < [k]) = _ ∧ decide ([k] < [c]) = _
    simp only [lt1, and_self]
  have ea := e 97 "a" (by decide +kernel)
  have ez := e 122 "z" (by decide +kernel)
  have eA := e 65 "A" (by decide +kernel)
  have eZ := e 90 "Z" (by decide +kernel)
  have e0 := e 48 "0" (by decide +kernel)
  have e9 := e 57 "9" (by decide +kernel)
  dsimp! only [w_is_letter, ea.1, ez.2, eA.1, eZ.2, e0.1, e9.2]
  have hh : isLetterN c = ((!decide (c < 97) && !decide (122 < c)) || ((!decide (c < 65) && !decide (90 < c)) || (!decide (c < 48) && !decide (57 < c)))) := by
    unfold isLetterN
    simp only [← decide_not, Nat.not_lt]
  rw [hh] at h
  revert h
  cases decide (c < 97) <;> cases decide (122 < c) <;> cases decide (c < 65) <;> cases decide (90 < c) <;> cases decide (c < 48) <;> cases decide (57 < c) <;> simp

def w_has_signs_1 : WS := (wRet (wPrim fAll (wCons (wLc (wIt (wVar 0)) (.n 2) wYes (wOrV (wCall (fs_is_letter) (wCons (wVar 2) wNil)) (wBin (fIn false) (wBor 2) (wBor 1))) [2]) wNil)))
def w_has_signs : WS := (wSeq (wIfS (wOrT (wNotT (wB (wIsi (wBor 0) "str"))) (wNotT (wB (wChain fLe fLe (wC (PyData.int 1)) (wPrim fLen (wCons (wBor 0) wNil)) (wC (PyData.int 40)))))) (wRet (wC (PyData.bool false))) wNext) w_has_signs_1)

def hasSigns (d : PyData) (signs : Str) : Bool := match d with
  | .str s => hasSignsS s signs
  | _ => false
def fs_has_signs : FS := fun as Q _ => ∃ d signs, as = [.v d, .v (.str signs)] ∧ okD d = true ∧ Q (.d (.bool (hasSigns d signs))) []
theorem l_has_signs : ∀ as Q X, fs_has_signs as Q X → as.length = 2 := by rintro as Q X ⟨d, _, rfl, _⟩; rfl
theorem m_has_signs : ∀ as Q X, fs_has_signs as Q X → w_has_signs (as ++ List.replicate 1 Sl.no) (endP 2 Q X) := by
  rintro as Q X ⟨d, signs, rfl, ok, h⟩
  cases d with
  | str s =>
    have hz : s.length ≤ sizeLine := okS_len (by simpa [okD] using ok)
    have hz2 : (DL.signs s).length < sizeLine := by
      have := okS_len' (by simpa [okD] using ok)
      have h2 : (DL.signs s).length = s.length := by simp [DL.signs, Str.length]
      rw [h2]
      exact Nat.lt_of_le_of_lt this (by decide)
    have e2 : decide ((s.length : Int) ≤ 40) = decide (s.length ≤ 40) := leI s.length 40
    dsimp! only [w_has_signs, hz, le1n, e2]
    by_cases h1 : 1 ≤ s.length
    · by_cases h2 : s.length ≤ 40
      · simp only [h1, h2, exists_eq_left', exists_eq_left, exists_and_left, R.d.injEq, R.o.injEq, PyData.bool.injEq, PyData.str.injEq, PyData.int.injEq, PyData.tuple.injEq, PyData.list.injEq, List.cons.injEq, Option.some.injEq, and_true, true_and, and_self, Bool.not_true, Bool.not_false, Bool.false_eq_true, Bool.true_eq_false, Bool.true_and, Bool.false_and, Bool.true_or, Bool.false_or, if_true, if_false, reduceIte, reduceCtorEq, not_false_eq_true, ne_eq, true_or, or_true, false_or, or_false, List.map_nil, List.map_cons, Option.toList_some, Option.toList_none, false_and, and_false, Bool.not_eq_true, Bool.or_false, Bool.or_true, Bool.and_true, Bool.and_false, decide_true]
        dsimp! only [w_has_signs_1]
        refine ⟨hz2, lcI_mapE s.cps.toList (fun c => .str (sg c)) (fun c => .bool (isLetterN c || decide (c ∈ signs.cps.toList))) rfl (fun c hc Kn kn => ?_) ?_⟩
        · dsimp! only [fs_is_letter]
          refine ⟨c, rfl, ?_⟩
          cases hb : isLetterN c with
          | true => simpa [hb] using kn
          | false => simp only [hb, exists_eq_left', exists_eq_left, exists_and_left, R.d.injEq, R.o.injEq, PyData.bool.injEq, PyData.str.injEq, PyData.int.injEq, PyData.tuple.injEq, PyData.list.injEq, List.cons.injEq, Option.some.injEq, and_true, true_and, and_self, Bool.not_true, Bool.not_false, Bool.false_eq_true, Bool.true_eq_false, Bool.true_and, Bool.false_and, Bool.true_or, Bool.false_or, if_true, if_false, reduceIte, reduceCtorEq, not_false_eq_true, ne_eq, true_or, or_true, false_or, or_false, List.map_nil, List.map_cons, Option.toList_some, Option.toList_none, false_and, and_false, Bool.not_eq_true, Bool.or_false, Bool.or_true, Bool.and_true, Bool.and_false] at kn ⊢; exact ⟨c, rfl, kn⟩
        · refine ⟨_, bools_map _ _, ?_⟩
          simp only [wSeq, wIfS, wRet, wRetN, wNext, wBreak, wCont, wNever, wSet, wAsg, wPar, wExpr, wFor, wApp, wPop, wSetIx, wVar, wBor, wTake, wC, wBin, wNil, wCons, wPrim, wCall, wTup, wLst, wSl, wNone, wSome, wM0, wM1, wB, wAndT, wOrT, wNotT, wAndV, wOrV, wNotV, wIf, wIsi, wIsi2, wNeg, wChain, wSortedSet, X_txl, X_txt, wIt, wIt.rdf, wRng1, wRng2, wLc, wYes, lcS, wipeG, backG, noMut, rd_d, rd_o, rd_b, rdf_d, rdf_o, fz_d, fz_o, fz_b, sl_d, sl_o, ok_d, ok_o, argSl_d, argSl_o, argSl_b, items_l, items_t, items_s, rds, rdF, stOk_eq, ncO_some, nc_v, nc_own, nc_no, stOks, setAll, wG, mutAt, putAt, Sl.mu, Sl.put, argSls, noB, fewB, putB, endP, cellsOf, cellF, List.getElem?_cons_zero, List.getElem?_cons_succ, List.getElem?_nil, List.set_cons_zero, List.set_cons_succ, List.append_eq, List.nil_append, List.cons_append, List.replicate, List.take_succ_cons, List.take_zero, List.take_nil, List.filterMap_cons, List.filterMap_nil, Option.map_some, Option.map_none, List.length_cons, List.length_nil, wExt, rdO_o, rdO_b, wDin, wLc2, lc2S, wAugI, wKin, wKix, wDix, wMinN, wEnum, wZip, wForE, wGE, wDget, wDget2, wSortedD, wLenSet, seqD_l, seqD_t, textsOf_l, textsOf_t]
          have : hasSigns (.str s) signs = (List.map (fun c => isLetterN c || decide (c ∈ signs.cps.toList)) s.cps.toList).all id := by
            simp only [hasSigns, hasSignsS, h1, h2, decide_true, Bool.true_and, List.all_map]
            rfl
          rw [this] at h
          exact h
      · simpa [h1, h2, hasSigns, hasSignsS] using h
    · simpa [h1, hasSigns, hasSignsS] using h
  | _ => dsimp! only [w_has_signs]; exact h

def w_is_word : WS := (wRet (wCall (fs_has_signs) (wCons (wVar 0) (wCons (wC (PyData.str "_-/")) wNil))))

def isWordD (d : PyData) : Bool := hasSigns d "_-/"
def fs_is_word : FS := fun as Q _ => ∃ d, as = [.v d] ∧ okD d = true ∧ Q (.d (.bool (isWordD d))) []
theorem l_is_word : ∀ as Q X, fs_is_word as Q X → as.length = 1 := by rintro as Q X ⟨d, rfl, _⟩; rfl
theorem m_is_word : ∀ as Q X, fs_is_word as Q X → w_is_word (as ++ List.replicate 0 Sl.no) (endP 1 Q X) := by
  rintro as Q X ⟨d, rfl, ok, h⟩
  dsimp! only [w_is_word, fs_has_signs]
  exact ⟨d, _, ⟨rfl, rfl⟩, ok, h⟩

def w_is_plain : WS := (wRet (wAndV (wCall (fs_has_signs) (wCons (wVar 0) (wCons (wC (PyData.str "_")) wNil))) (wNotV (wChain fLe fLe (wC (PyData.str "0")) (wBin fIx (wBor 0) (wC (PyData.int 0))) (wC (PyData.str "9"))))))

def headDig : List Nat → Bool
  | c :: _ => decide (48 ≤ c) && decide (c ≤ 57)
  | [] => false
def isPlainS (s : Str) : Bool := hasSignsS s "_" && !headDig s.cps.toList
def isPlainD (d : PyData) : Bool := match d with
  | .str s => isPlainS s
  | _ => false
def fs_is_plain : FS := fun as Q _ => ∃ d, as = [.v d] ∧ okD d = true ∧ Q (.d (.bool (isPlainD d))) []
theorem l_is_plain : ∀ as Q X, fs_is_plain as Q X → as.length = 1 := by rintro as Q X ⟨d, rfl, _⟩; rfl
theorem m_is_plain : ∀ as Q X, fs_is_plain as Q X → w_is_plain (as ++ List.replicate 0 Sl.no) (endP 1 Q X) := by
  rintro as Q X ⟨d, rfl, ok, h⟩
  dsimp! only [w_is_plain, fs_has_signs]
  refine ⟨d, _, ⟨rfl, rfl⟩, ok, ?_⟩
  cases d with
  | str s =>
    cases hb : hasSigns (.str s) "_" with
    | false =>
      have : isPlainD (.str s) = false := by
        simp only [hasSigns] at hb
        simp [isPlainD, isPlainS, hb]
      rw [this] at h
      simpa using h
    | true =>
      have hb' : hasSignsS s "_" = true := hb
      have h1 : 1 ≤ s.length := by simp only [hasSignsS, Bool.and_eq_true, decide_eq_true_eq] at hb'; exact hb'.1.1
      have hz : s.length ≤ sizeLine := okS_len (by simpa [okD] using ok)
      obtain ⟨c, r, hc⟩ : ∃ c r, s.cps.toList = c :: r := by
        cases e : s.cps.toList with
        | cons c r => exact ⟨c, r, rfl⟩
        | nil =>
          have : s.length = 0 := by simp [Str.length, ← Array.length_toList, e]
          omega
      have ep : isPlainD (.str s) = !(!decide (c < 48) && !decide (57 < c)) := by
        simp only [isPlainD, isPlainS, hb', hc, headDig, Bool.true_and, ← decide_not, Nat.not_lt]
      rw [ep] at h
      have e : ∀ (k : Nat) (s : String), (Str.ofString s).cps.toList = [k] → (decide ((sg c).cps.toList < (Str.ofString s).cps.toList) = decide (c < k)) ∧ (decide ((Str.ofString s).cps.toList < (sg c).cps.toList) = decide (k < c)) := fun k s q => by
        rw [q]
        show decide ([c] < [k]) = _ ∧ decide ([k] < [c]) = _
        simp only [lt1, and_self]
      have e0 := e 48 "0" (by decide +kernel)
      have e9 := e 57 "9" (by decide +kernel)
      have ha : atI s.cps.toList 0 = some c := by
        have := atI_nat (xs := s.cps.toList) (k := 0) (x := c) (by rw [hc]; rfl)
        simpa using this
      dsimp! only [ha, hz, e0.1, e9.2]
      revert h
      cases decide (c < 48) <;> cases decide (57 < c) <;> simp
  | _ => exact h

def w_is_item_word : WS := (wRet (wAndV (wCall (fs_has_signs) (wCons (wVar 0) (wCons (wC (PyData.str "_-/.:@")) wNil))) (wBin fNe (wBin fIx (wBor 0) (wNeg (wC (PyData.int 1)))) (wC (PyData.str ".")))))

def fs_is_item_word : FS := fun as Q _ => ∃ d, as = [.v d] ∧ okD d = true ∧ Q (.d (.bool (isItemWord d))) []
theorem l_is_item_word : ∀ as Q X, fs_is_item_word as Q X → as.length = 1 := by rintro as Q X ⟨d, rfl, _⟩; rfl
theorem m_is_item_word : ∀ as Q X, fs_is_item_word as Q X → w_is_item_word (as ++ List.replicate 0 Sl.no) (endP 1 Q X) := by
  rintro as Q X ⟨d, rfl, ok, h⟩
  dsimp! only [w_is_item_word, fs_has_signs]
  refine ⟨d, itemSigns, ⟨rfl, rfl⟩, ok, ?_⟩
  cases d with
  | str s =>
    cases hb : hasSigns (.str s) itemSigns with
    | false =>
      have : isItemWord (.str s) = false := by simp only [hasSigns] at hb; simp [isItemWord, isItemS, hb]
      rw [this] at h
      simpa using h
    | true =>
      have hb' : hasSignsS s itemSigns = true := hb
      have h1 : 1 ≤ s.length := by simp only [hasSignsS, Bool.and_eq_true, decide_eq_true_eq] at hb'; exact hb'.1.1
      have hz : s.length ≤ sizeLine := okS_len (by simpa [okD] using ok)
      obtain ⟨c, hc⟩ : ∃ c, s.cps.toList.getLast? = some c := by
        cases e : s.cps.toList.getLast? with
        | some c => exact ⟨c, rfl⟩
        | none =>
          rw [List.getLast?_eq_none_iff] at e
          have : s.length = 0 := by simp [Str.length, ← Array.length_toList, e]
          omega
      dsimp! only [id_eq]
      refine ⟨hz, c, atI_last hc, ?_⟩
      have : isItemWord (.str s) = !(sg c == Str.ofString ".") := by
        rw [sg_eq cdot]
        simp [isItemWord, isItemS, hb', hc, bne]
      rw [this] at h
      simpa [wSeq, wIfS, wRet, wRetN, wNext, wBreak, wCont, wNever, wSet, wAsg, wPar, wExpr, wFor, wApp, wPop, wSetIx, wVar, wBor, wTake, wC, wBin, wNil, wCons, wPrim, wCall, wTup, wLst, wSl, wNone, wSome, wM0, wM1, wB, wAndT, wOrT, wNotT, wAndV, wOrV, wNotV, wIf, wIsi, wIsi2, wNeg, wChain, wSortedSet, X_txl, X_txt, wIt, wIt.rdf, wRng1, wRng2, wLc, wYes, lcS, wipeG, backG, noMut, rd_d, rd_o, rd_b, rdf_d, rdf_o, fz_d, fz_o, fz_b, sl_d, sl_o, ok_d, ok_o, argSl_d, argSl_o, argSl_b, items_l, items_t, items_s, rds, rdF, stOk_eq, ncO_some, nc_v, nc_own, nc_no, stOks, setAll, wG, mutAt, putAt, Sl.mu, Sl.put, argSls, noB, fewB, putB, endP, cellsOf, cellF, List.getElem?_cons_zero, List.getElem?_cons_succ, List.getElem?_nil, List.set_cons_zero, List.set_cons_succ, List.append_eq, List.nil_append, List.cons_append, List.replicate, List.take_succ_cons, List.take_zero, List.take_nil, List.filterMap_cons, List.filterMap_nil, Option.map_some, Option.map_none, List.length_cons, List.length_nil, wExt, rdO_o, rdO_b, wDin, wLc2, lc2S, wAugI, wKin, wKix, wDix, wMinN, wEnum, wZip, wForE, wGE, wDget, wDget2, wSortedD, wLenSet, seqD_l, seqD_t, textsOf_l, textsOf_t, F_add_i, F_add_s, F_add_l, F_add_t, F_int, F_cmp_i, F_cmp_s, F_in_l, F_in_t, F_in_s, F_ix_l, F_ix_t, F_ix_s, F_sl_l, F_sl_t, F_sl_s, F_len_l, F_len_t, F_len_s, F_toInt, F_toStr, F_toTup_l, F_toTup_t, F_toLst_l, F_toLst_t, F_all, F_any, F_split, F_join_l, F_join_t, F_part, F_start, F_end, F_strip, F_sorted_l, F_sorted_t, N_none, N_str, N_int, N_bool, N_tup, N_lst, S_str, S_none, S_int, S_bool, S_tup, S_lst, I_str, I_none, I_int, I_bool, I_tup, I_lst, B_str, B_none, B_int, B_bool, B_tup, B_lst, T_str, T_none, T_int, T_bool, T_tup, T_lst, L_str, L_none, L_int, L_bool, L_tup, L_lst, D_str, D_none, D_int, D_bool, D_tup, D_lst, N_dic, S_dic, I_dic, B_dic, T_dic, L_dic, D_dic, E_ss, E_ii, E_bb, E_ns, E_is, E_bs, E_nn, isA_str, isA_int, isA_bool, isA_tuple, isA_list, isA_dict, fEq, fNe, fIsN, fNotN, eqv_str, eqv_int, eqv_bool, F_sumI, exists_eq_left', exists_eq_left, exists_and_left, R.d.injEq, R.o.injEq, PyData.bool.injEq, PyData.str.injEq, PyData.int.injEq, PyData.tuple.injEq, PyData.list.injEq, List.cons.injEq, Option.some.injEq, and_true, true_and, and_self, Bool.not_true, Bool.not_false, Bool.false_eq_true, Bool.true_eq_false, Bool.true_and, Bool.false_and, Bool.true_or, Bool.false_or, if_true, if_false, reduceIte, reduceCtorEq, not_false_eq_true, ne_eq, true_or, or_true, false_or, or_false, List.map_nil, List.map_cons, Option.toList_some, Option.toList_none, false_and, and_false, Bool.not_eq_true, Bool.or_false, Bool.or_true, Bool.and_true, Bool.and_false] using h
  | _ => exact h

def w_is_key : WS := (wRet (wAndV (wCall (fs_is_plain) (wCons (wVar 0) wNil)) (wBin (fIn true) (wBor 0) (wC (PyData.tuple [(PyData.str "unset"), (PyData.str "lock"), (PyData.str "when"), (PyData.str "end")])))))

def reservedL : List Str := ["unset", "lock", "when", "end"]
def isKeyS (s : Str) : Bool := isPlainS s && decide (s ∉ reservedL)
def isKeyD (d : PyData) : Bool := match d with
  | .str s => isKeyS s
  | _ => false
def fs_is_key : FS := fun as Q _ => ∃ d, as = [.v d] ∧ okD d = true ∧ Q (.d (.bool (isKeyD d))) []
theorem l_is_key : ∀ as Q X, fs_is_key as Q X → as.length = 1 := by rintro as Q X ⟨d, rfl, _⟩; rfl
theorem m_is_key : ∀ as Q X, fs_is_key as Q X → w_is_key (as ++ List.replicate 0 Sl.no) (endP 1 Q X) := by
  rintro as Q X ⟨d, rfl, ok, h⟩
  dsimp! only [w_is_key, fs_is_plain]
  refine ⟨d, rfl, ok, ?_⟩
  cases d with
  | str s =>
    have e4 : inD (.str s) (reservedL.map .str) = decide (s ∈ reservedL) := inD_strs s reservedL
    have f4 : (reservedL.map PyData.str).all flat = true := flat_strs reservedL
    rw [show reservedL.map PyData.str = [.str "unset", .str "lock", .str "when", .str "end"] from rfl] at e4 f4
    dsimp! only [isPlainD, isKeyD, isKeyS, e4, f4, flat_str] at h ⊢
    cases hp : isPlainS s with
    | false => simpa [hp] using h
    | true =>
      simp only [hp, exists_eq_left', exists_eq_left, exists_and_left, R.d.injEq, R.o.injEq, PyData.bool.injEq, PyData.str.injEq, PyData.int.injEq, PyData.tuple.injEq, PyData.list.injEq, List.cons.injEq, Option.some.injEq, and_true, true_and, and_self, Bool.not_true, Bool.not_false, Bool.false_eq_true, Bool.true_eq_false, Bool.true_and, Bool.false_and, Bool.true_or, Bool.false_or, if_true, if_false, reduceIte, reduceCtorEq, not_false_eq_true, ne_eq, true_or, or_true, false_or, or_false, List.map_nil, List.map_cons, Option.toList_some, Option.toList_none, false_and, and_false, Bool.not_eq_true, Bool.or_false, Bool.or_true, Bool.and_true, Bool.and_false] at h ⊢
      by_cases q : s ∈ reservedL
      · simpa [q] using h
      · simpa [q] using h
  | _ => exact h

def w_is_section_1 : WS := (wRet (wAndV (wBin fLe (wPrim fLen (wCons (wBor 1) wNil)) (wC (PyData.int 4))) (wPrim fAll (wCons (wLc (wIt (wVar 1)) (.n 2) wYes (wCall (fs_is_plain) (wCons (wVar 2) wNil)) [2]) wNil))))
def w_is_section : WS := (wSeq (wSet (wM1 fSplit (wVar 0) (wC (PyData.str "."))) 1) w_is_section_1)

def dots (s : Str) : List (List Nat) := splC 46 s.cps.toList
def allPlain (ps : List (List Nat)) : Bool := ps.all fun p => isPlainS (ofL p)
def isSectionS (s : Str) : Bool := decide ((dots s).length ≤ 4) && allPlain (dots s)
theorem splC_sub {c : Nat} : ∀ {l p : List Nat}, p ∈ splC c l → (∀ x ∈ p, x ∈ l) ∧ p.length ≤ l.length
  | [], p, h => by simp [splC] at h; rw [h]; simp
  | a :: l, p, h => by
    obtain ⟨q, ps, e⟩ := splC_ne c l
    have ih := fun p => splC_sub (c := c) (l := l) (p := p)
    by_cases hx : a = c
    · subst hx
      rw [splC_eq, e] at h
      rw [e] at ih
      rcases List.mem_cons.mp h with rfl | h
      · simp
      · obtain ⟨a1, a2⟩ := ih p h
        exact ⟨fun x hx => List.mem_cons_of_mem _ (a1 x hx), by simp only [List.length_cons]; omega⟩
    · rw [splC_cons hx e] at h
      rw [e] at ih
      rcases List.mem_cons.mp h with rfl | h
      · obtain ⟨a1, a2⟩ := ih q (List.mem_cons_self ..)
        refine ⟨fun x hx => ?_, by simp only [List.length_cons]; omega⟩
        rcases List.mem_cons.mp hx with rfl | hx
        · exact List.mem_cons_self ..
        · exact List.mem_cons_of_mem _ (a1 x hx)
      · obtain ⟨a1, a2⟩ := ih p (List.mem_cons_of_mem _ h)
        exact ⟨fun x hx => List.mem_cons_of_mem _ (a1 x hx), by simp only [List.length_cons]; omega⟩
theorem splC_len (c : Nat) : ∀ l : List Nat, (splC c l).length ≤ l.length + 1
  | [] => by simp [splC]
  | a :: l => by
    have ih := splC_len c l
    obtain ⟨q, ps, e⟩ := splC_ne c l
    by_cases hx : a = c
    · subst hx
      rw [splC_eq]
      simp only [List.length_cons]
      omega
    · rw [splC_cons hx e]
      rw [e] at ih
      simp only [List.length_cons] at ih ⊢
      omega
theorem okS_codes {s : Str} (h : okS s = true) : (∀ c ∈ s.cps.toList, c < 0x110000) ∧ s.cps.toList.length ≤ 1000000 := by
  have h1 := okS_ok h
  have h2 := okS_len' h
  refine ⟨fun c hc => ?_, by simpa [Str.length] using h2⟩
  unfold PySem.PyData.strOk at h1
  rw [Array.all_eq_true_iff_forall_mem] at h1
  have := h1 c (by simpa using hc)
  simpa using this
theorem okS_part {s : Str} (h : okS s = true) {c : Nat} {p : List Nat} (hp : p ∈ splC c s.cps.toList) : okS (ofL p) = true := by
  obtain ⟨h1, h2⟩ := okS_codes h
  obtain ⟨a1, a2⟩ := splC_sub hp
  exact okS_ofL (fun x hx => h1 x (a1 x hx)) (by omega)
theorem dot_sg : (Str.ofString ".") = ⟨#[46]⟩ := by decide +kernel
def fs_is_section : FS := fun as Q _ => ∃ s : Str, as = [.v (.str s)] ∧ okS s = true ∧ Q (.d (.bool (isSectionS s))) []
theorem l_is_section : ∀ as Q X, fs_is_section as Q X → as.length = 1 := by rintro as Q X ⟨d, rfl, _⟩; rfl
theorem m_is_section : ∀ as Q X, fs_is_section as Q X → w_is_section (as ++ List.replicate 2 Sl.no) (endP 1 Q X) := by
  rintro as Q X ⟨s, rfl, ok, h⟩
  have hl := okS_len' ok
  dsimp! only [w_is_section]
  refine ⟨by decide +kernel, Nat.le_trans (show s.length + 2 ≤ 1000002 by omega) (by decide), ?_⟩
  have es : Txt.split s (Str.ofString ".") = (dots s).map ofL := by rw [dot_sg]; exact split_one s 46 (by decide)
  have hlen : (dots s).length ≤ 1000001 := by
    have := splC_len 46 s.cps.toList
    have e : s.cps.toList.length = s.length := by simp [Str.length]
    unfold dots
    omega
  rw [es, List.map_map]
  have ele : ((((dots s).map (PyData.str ∘ ofL)).length : Nat) : Int) = ((dots s).length : Int) := by rw [List.length_map]
  dsimp! only [w_is_section_1, ele]
  have e4 : decide (((dots s).length : Int) ≤ 4) = decide ((dots s).length ≤ 4) := leI _ 4
  rw [e4]
  cases h4 : decide ((dots s).length ≤ 4) with
  | false => simpa [isSectionS, h4] using h
  | true =>
    dsimp! only [id_eq]
    refine ⟨by rw [List.length_map]; exact Nat.lt_of_le_of_lt hlen (by decide), lcI_mapE (dots s) (PyData.str ∘ ofL) (fun p => .bool (isPlainS (ofL p))) rfl (fun p hp Kn kn => ?_) ?_⟩
    · dsimp! only [fs_is_plain, Function.comp_apply]
      exact ⟨_, rfl, ok_str (okS_part ok hp), kn⟩
    · refine ⟨_, bools_map _ _, ?_⟩
      simp only [wSeq, wIfS, wRet, wRetN, wNext, wBreak, wCont, wNever, wSet, wAsg, wPar, wExpr, wFor, wApp, wPop, wSetIx, wVar, wBor, wTake, wC, wBin, wNil, wCons, wPrim, wCall, wTup, wLst, wSl, wNone, wSome, wM0, wM1, wB, wAndT, wOrT, wNotT, wAndV, wOrV, wNotV, wIf, wIsi, wIsi2, wNeg, wChain, wSortedSet, X_txl, X_txt, wIt, wIt.rdf, wRng1, wRng2, wLc, wYes, lcS, wipeG, backG, noMut, rd_d, rd_o, rd_b, rdf_d, rdf_o, fz_d, fz_o, fz_b, sl_d, sl_o, ok_d, ok_o, argSl_d, argSl_o, argSl_b, items_l, items_t, items_s, rds, rdF, stOk_eq, ncO_some, nc_v, nc_own, nc_no, stOks, setAll, wG, mutAt, putAt, Sl.mu, Sl.put, argSls, noB, fewB, putB, endP, cellsOf, cellF, List.getElem?_cons_zero, List.getElem?_cons_succ, List.getElem?_nil, List.set_cons_zero, List.set_cons_succ, List.append_eq, List.nil_append, List.cons_append, List.replicate, List.take_succ_cons, List.take_zero, List.take_nil, List.filterMap_cons, List.filterMap_nil, Option.map_some, Option.map_none, List.length_cons, List.length_nil, wExt, rdO_o, rdO_b, wDin, wLc2, lc2S, wAugI, wKin, wKix, wDix, wMinN, wEnum, wZip, wForE, wGE, wDget, wDget2, wSortedD, wLenSet, seqD_l, seqD_t, textsOf_l, textsOf_t, List.all_map]
      have : isSectionS s = (dots s).all (id ∘ fun p => isPlainS (ofL p)) := by
        simp only [isSectionS, h4, allPlain, Bool.true_and]
        rfl
      rw [this] at h
      exact h

def w_name_of : WS := (wRet (wIf (wB (wBin fEq (wBor 0) (wC (PyData.str "")))) (wVar 1) (wBin fAdd (wBin fAdd (wBor 0) (wC (PyData.str "."))) (wBor 1))))

def nameF (sec key : Str) : Str := if sec = "" then key else sec ++ "." ++ key
def fs_name_of : FS := fun as Q _ => ∃ sec key : Str, as = [.v (.str sec), .v (.str key)] ∧ sec.length + key.length ≤ 3000000 ∧ Q (.d (.str (nameF sec key))) []
theorem l_name_of : ∀ as Q X, fs_name_of as Q X → as.length = 2 := by rintro as Q X ⟨_, _, rfl, _⟩; rfl
theorem m_name_of : ∀ as Q X, fs_name_of as Q X → w_name_of (as ++ List.replicate 0 Sl.no) (endP 2 Q X) := by
  rintro as Q X ⟨sec, key, rfl, hz, h⟩
  unfold nameF at h
  have d1 : (Str.ofString ".").length = 1 := by decide +kernel
  dsimp! only [w_name_of]
  by_cases q : sec = Str.ofString ""
  · simp only [q, beq_self_eq_true, exists_eq_left', exists_eq_left, exists_and_left, R.d.injEq, R.o.injEq, PyData.bool.injEq, PyData.str.injEq, PyData.int.injEq, PyData.tuple.injEq, PyData.list.injEq, List.cons.injEq, Option.some.injEq, and_true, true_and, and_self, Bool.not_true, Bool.not_false, Bool.false_eq_true, Bool.true_eq_false, Bool.true_and, Bool.false_and, Bool.true_or, Bool.false_or, if_true, if_false, reduceIte, reduceCtorEq, not_false_eq_true, ne_eq, true_or, or_true, false_or, or_false, List.map_nil, List.map_cons, Option.toList_some, Option.toList_none, false_and, and_false, Bool.not_eq_true, Bool.or_false, Bool.or_true, Bool.and_true, Bool.and_false] at h ⊢
    exact h
  · have e : (sec == Str.ofString "") = false := by simpa using q
    rw [if_neg q] at h
    simp only [e, exists_eq_left', exists_eq_left, exists_and_left, R.d.injEq, R.o.injEq, PyData.bool.injEq, PyData.str.injEq, PyData.int.injEq, PyData.tuple.injEq, PyData.list.injEq, List.cons.injEq, Option.some.injEq, and_true, true_and, and_self, Bool.not_true, Bool.not_false, Bool.false_eq_true, Bool.true_eq_false, Bool.true_and, Bool.false_and, Bool.true_or, Bool.false_or, if_true, if_false, reduceIte, reduceCtorEq, not_false_eq_true, ne_eq, true_or, or_true, false_or, or_false, List.map_nil, List.map_cons, Option.toList_some, Option.toList_none, false_and, and_false, Bool.not_eq_true, Bool.or_false, Bool.or_true, Bool.and_true, Bool.and_false]
    refine ⟨Nat.le_trans (show sec.length + (Str.ofString ".").length ≤ 3000001 by omega) (by decide), ?_, h⟩
    have : (sec ++ Str.ofString ".").length = sec.length + 1 := by
      rw [← d1]
      show (sec.cps ++ (Str.ofString ".").cps).size = sec.cps.size + (Str.ofString ".").cps.size
      simp
    rw [this]
    exact Nat.le_trans (show sec.length + 1 + key.length ≤ 3000001 by omega) (by decide)

def w_section_body_1 : WS := (wRet (wC PyData.none))
def w_section_body_2 : WS := (wSeq (wIfS (wAndT (wB (wBin fEq (wBin fIx (wBor 0) (wNeg (wC (PyData.int 1)))) (wC (PyData.str "]")))) (wAndT (wB (wBin fGt (wPrim fLen (wCons (wBor 0) wNil)) (wC (PyData.int 1)))) (wOrT (wB (wBin fEq (wBor 1) (wC (PyData.str "")))) (wB (wCall (fs_is_section) (wCons (wVar 1) wNil)))))) (wRet (wTup (wCons (wC (PyData.str "section")) (wCons (wVar 1) wNil)))) wNext) w_section_body_1)
def w_section_body : WS := (wSeq (wSet (wSl fSl (wBor 0) (wSome (wC (PyData.int 1))) (wSome (wNeg (wC (PyData.int 1))))) 1) w_section_body_2)

/-! the bodies of lines, as data and by codes -/
inductive Body where
  | no | nothing | fin | sec (s : List Nat) | wh (f : List Nat) (vs : List (List Nat)) (p : Bool) | st (key : List Nat) (word : Str) (items : List (List Nat))
abbrev codeD (l : List Nat) : PyData := .str (ofL l)
def condD (f : List Nat) (vs : List (List Nat)) (p : Bool) : PyData := .tuple [codeD f, .tuple (vs.map codeD), .bool p]
def Body.d : Body → PyData
  | .no => .none
  | .nothing => .tuple [.str "nothing"]
  | .fin => .tuple [.str "end"]
  | .sec s => .tuple [.str "section", codeD s]
  | .wh f vs p => .tuple [.str "when", condD f vs p]
  | .st k w is => .tuple [.str "statement", codeD k, .str w, .tuple (is.map codeD)]
def cs (s : String) : List Nat := (Str.ofString s).cps.toList
def isWordS (s : Str) : Bool := hasSignsS s "_-/"
def lastIs (c : Nat) (l : List Nat) : Bool := decide (l.getLast? = some c)
def secOf (l : List Nat) : List Nat := (l.drop 1).dropLast
def sectionB (l : List Nat) : Body := if (lastIs 93 l && (decide (1 < l.length) && (decide (secOf l = []) || isSectionS (ofL (secOf l))))) = true then .sec (secOf l) else .no
def whenBody (f : List Nat) (vs : List (List Nat)) (p : Bool) : Body :=
  if (isPlainS (ofL f) && (vs.all (fun v => isWordS (ofL v)) && (!decide (cs "not" ∈ vs) && decide vs.Nodup))) = true then .wh f vs p else .no
def posOf (r : List Nat) : Bool := !pre (cs "not ") r
def restOf (r : List Nat) : List Nat := if posOf r = true then r else r.drop 4
def whenB (l : List Nat) : Body := whenBody (partL (cs " is ") (l.drop 5)).1 (splL (cs ", ") (restOf (partL (cs " is ") (l.drop 5)).2.2)) (posOf (partL (cs " is ") (l.drop 5)).2.2)
def wordsL : List (Str × PyData) := [("=", .str "set"), ("+=", .str "append"), ("^=", .str "prepend"), ("-=", .str "drop"), ("?=", .str "default")]
def wordOf (s : Str) : Option Str := ([("=", "set"), ("+=", "append"), ("^=", "prepend"), ("-=", "drop"), ("?=", "default")] : List (Str × Str)).lookup s
def stBody (key : List Nat) (sign : Str) (items : List (List Nat)) : Body := match wordOf sign with
  | none => .no
  | some w => if (isKeyS (ofL key) && (items.all (fun i => isItemS (ofL i)) && !(decide (items = []) && !(decide (sign = "=") || decide (sign = "?="))))) = true then .st key w items else .no
def itemsOf (p : List Nat × Bool × List Nat) : List (List Nat) := if p.2.1 = true then splL (cs ", ") p.2.2 else []
def statementB (l : List Nat) : Body :=
  stBody (partL [32] l).1 (ofL (partL [32] (partL [32] l).2.2).1) (itemsOf (partL [32] (partL [32] l).2.2))
def toldB (l : List Nat) : Body :=
  if l = [] then .nothing else if l = cs "end" then .fin else if l.head? = some 91 then sectionB l
  else if (partL [32] l).1 = cs "when" then whenB l
  else if (partL [32] l).1 = cs "unset" ∨ (partL [32] l).1 = cs "lock" then (if isKeyS (ofL (partL [32] l).2.2) = true then .st (partL [32] l).2.2 (ofL (partL [32] l).1) [] else .no)
  else statementB l
def bodyB (l : List Nat) : Body := toldB (if (partL [35] l).2.1 = true then rstL 32 (lstL 32 (partL [35] l).1) else lstL 32 (partL [35] l).1)
theorem cs_l (s : String) : (Str.ofString s).cps.toList = cs s := rfl
theorem ofL_inj {a b : List Nat} (h : ofL a = ofL b) : a = b := by rw [← ofL_l a, h, ofL_l]
theorem ofL_cs (s : String) : ofL (cs s) = Str.ofString s := ofL_of _
theorem ofL_beq (a : List Nat) (s : String) : (ofL a == Str.ofString s) = decide (a = cs s) := by
  rw [← ofL_cs, Bool.eq_iff_iff, beq_iff_eq, decide_eq_true_eq]
  exact ⟨ofL_inj, fun e => by rw [e]⟩
theorem beq_cs (t : Str) (s : String) : (t == Str.ofString s) = decide (t.cps.toList = cs s) := by rw [← ofL_beq, ofL_of]
theorem cs_empty : cs "" = [] := by decide +kernel
theorem ofL_nil : ofL [] = Str.empty := rfl
theorem str_empty : (Str.ofString "") = Str.empty := by decide +kernel
/-- a text whose signs are those of another one -/
theorem okS_memL {l m : List Nat} (h : ∀ c ∈ l, c ∈ m) (hl : l.length ≤ m.length) (ok : okS (ofL m) = true) : okS (ofL l) = true := by
  obtain ⟨h1, h2⟩ := okS_codes ok
  rw [ofL_l] at h1 h2
  exact okS_ofL (fun c hc => h1 c (h c hc)) (by omega)
structure SubOf (l m : List Nat) : Prop where
  mem : ∀ c ∈ l, c ∈ m
  len : l.length ≤ m.length
theorem SubOf.ok {l m : List Nat} (s : SubOf l m) (ok : okS (ofL m) = true) : okS (ofL l) = true := okS_memL s.mem s.len ok
theorem SubOf.trans {l m n : List Nat} (a : SubOf l m) (b : SubOf m n) : SubOf l n := ⟨fun c h => b.mem c (a.mem c h), Nat.le_trans a.len b.len⟩
theorem SubOf.id (l : List Nat) : SubOf l l := ⟨fun _ h => h, Nat.le_refl _⟩
theorem sub_drop (l : List Nat) (k : Nat) : SubOf (l.drop k) l := ⟨fun _ h => List.mem_of_mem_drop h, by rw [List.length_drop]; omega⟩
theorem sub_part1 (s : List Nat) : ∀ l : List Nat, SubOf (partL s l).1 l
  | [] => ⟨fun _ h => h, Nat.le_refl _⟩
  | c :: r => by
    unfold partL
    split
    · exact ⟨fun _ h => absurd h (by simp), Nat.zero_le _⟩
    · have := sub_part1 s r
      exact ⟨fun x h => by
        rcases List.mem_cons.mp h with rfl | h
        · exact List.mem_cons_self ..
        · exact List.mem_cons_of_mem _ (this.mem x h), by simp only [List.length_cons]; have := this.len; omega⟩
theorem sub_part2 (s : List Nat) : ∀ l : List Nat, SubOf (partL s l).2.2 l
  | [] => ⟨fun _ h => h, Nat.le_refl _⟩
  | c :: r => by
    unfold partL
    split
    · exact sub_drop _ _
    · have := sub_part2 s r
      exact ⟨fun x h => List.mem_cons_of_mem _ (this.mem x h), by simp only [List.length_cons]; have := this.len; omega⟩
theorem splK_sub (s : List Nat) : ∀ (l : List Nat) (k : Nat), ∀ p ∈ splK s l k, SubOf p l
  | [], k, p, h => by simp [splK] at h; rw [h]; exact SubOf.id _
  | c :: r, 0, p, h => by
    have up : ∀ k, ∀ q ∈ splK s r k, SubOf q (c :: r) := fun k q hq => (splK_sub s r k q hq).trans ⟨fun _ h => List.mem_cons_of_mem _ h, by simp⟩
    unfold splK at h
    split at h
    · rcases List.mem_cons.mp h with rfl | h
      · exact ⟨fun _ h => absurd h (by simp), Nat.zero_le _⟩
      · exact up _ p h
    · obtain ⟨q, ps, e⟩ := splL_ne s r
      rw [show splK s r 0 = q :: ps from e] at h
      rcases List.mem_cons.mp h with rfl | h
      · have := splK_sub s r 0 q (by rw [show splK s r 0 = q :: ps from e]; exact List.mem_cons_self ..)
        exact ⟨fun x h => by
          rcases List.mem_cons.mp h with rfl | h
          · exact List.mem_cons_self ..
          · exact List.mem_cons_of_mem _ (this.mem x h), by simp only [List.length_cons]; have := this.len; omega⟩
      · exact up 0 p (by rw [show splK s r 0 = q :: ps from e]; exact List.mem_cons_of_mem _ h)
  | c :: r, k + 1, p, h => by
    unfold splK at h
    exact (splK_sub s r k p h).trans ⟨fun _ h => List.mem_cons_of_mem _ h, by simp⟩
theorem splK_len (s : List Nat) : ∀ (l : List Nat) (k : Nat), (splK s l k).length ≤ l.length + 1
  | [], k => by simp [splK]
  | c :: r, 0 => by
    unfold splK
    split
    · have := splK_len s r (s.length - 1)
      simp only [List.length_cons]; omega
    · obtain ⟨q, ps, e⟩ := splL_ne s r
      have := splK_len s r 0
      rw [show splK s r 0 = q :: ps from e] at this ⊢
      simp only [List.length_cons] at this ⊢
      omega
  | c :: r, k + 1 => by
    unfold splK
    have := splK_len s r k
    simp only [List.length_cons]; omega
theorem sub_lst (c : Nat) (l : List Nat) : SubOf (lstL c l) l := ⟨fun _ h => (List.dropWhile_suffix _).subset h, (List.dropWhile_suffix _).length_le⟩
theorem sub_rst (c : Nat) (l : List Nat) : SubOf (rstL c l) l := by
  have := sub_lst c l.reverse
  unfold rstL
  exact ⟨fun x h => by have := this.mem x (by simpa using h); simpa using this, by have := this.len; simpa using this⟩
theorem okS_len2 {l : List Nat} (ok : okS (ofL l) = true) : l.length ≤ 1000000 := by
  have := okS_len' ok
  rwa [ofL_len] at this
theorem okS_cut {l m : List Nat} (ok : okS (ofL m) = true) (s : SubOf l m) : okS (ofL l) = true ∧ (ofL l).length ≤ sizeLine ∧ (ofL l).length + 2 ≤ sizeLine := by
  have h := s.ok ok
  have h2 := okS_len2 h
  rw [ofL_len]
  exact ⟨h, Nat.le_trans h2 (by decide), Nat.le_trans (show l.length + 2 ≤ 1000002 by omega) (by decide)⟩
theorem part_ofL (l : List Nat) (s : String) (hs : cs s ≠ []) : Txt.partition (ofL l) (Str.ofString s) = (ofL (partL (cs s) l).1, (if (partL (cs s) l).2.1 then Str.ofString s else Str.empty), ofL (partL (cs s) l).2.2) := by
  have := part_eq (ofL l) (Str.ofString s) hs
  rw [ofL_l] at this
  exact this
theorem split_ofL (l : List Nat) (s : String) (hs : cs s ≠ []) (hk : ∀ c ∈ cs s, c < 256) : Txt.split (ofL l) (Str.ofString s) = (splL (cs s) l).map ofL := by
  have := split_eq (ofL l) (Str.ofString s) hs hk
  rw [ofL_l] at this
  exact this
theorem drop_sl (l : List Nat) (k : Nat) : cutS (ofL l) (some ((k : Nat) : Int)) none = ofL (l.drop k) := by
  unfold cutS
  rw [ofL_l, ofL_len]
  simp only [HT.sIx_none, HT.sIx_nat]
  show ofL _ = _
  congr 1
  by_cases h : k ≤ l.length
  · rw [Nat.min_eq_left h, List.take_of_length_le (by rw [List.length_drop]; exact Nat.le_refl _)]
  · rw [Nat.min_eq_right (by omega), List.drop_eq_nil_of_le (show l.length ≤ k by omega)]
    simp

theorem secOf_sl (l : List Nat) : cutS (ofL l) (some 1) (some (-1)) = ofL (secOf l) := by
  unfold cutS secOf
  rw [ofL_l, ofL_len]
  have e1 : HT.sIx l.length 0 (some (1 : Int)) = min 1 l.length := HT.sIx_nat l.length 0 1
  have e2 : HT.sIx l.length l.length (some (-1 : Int)) = l.length - 1 := by
    unfold HT.sIx
    simp
    omega
  rw [e1, e2]
  show ofL _ = _
  congr 1
  cases l with
  | nil => rfl
  | cons a r =>
    simp only [List.length_cons, List.drop_succ_cons, List.drop_zero, Nat.add_sub_cancel]
    rw [Nat.min_eq_left (by omega), List.dropLast_eq_take]
    rfl
theorem sub_sec (l : List Nat) : SubOf (secOf l) l := ⟨fun _ h => List.mem_of_mem_drop ((List.dropLast_subset _) h), by unfold secOf; rw [List.length_dropLast, List.length_drop]; omega⟩
theorem sg_beq (c : Nat) (s : String) (k : Nat) (h : cs s = [k]) : (sg c == Str.ofString s) = decide (c = k) := by
  have : sg c = ofL [c] := rfl
  rw [this, ofL_beq, h]
  simp
def fs_section_body : FS := fun as Q _ => ∃ l : List Nat, as = [.v (codeD l)] ∧ okS (ofL l) = true ∧ l ≠ [] ∧ Q (.d (sectionB l).d) []
theorem l_section_body : ∀ as Q X, fs_section_body as Q X → as.length = 1 := by rintro as Q X ⟨_, rfl, _⟩; rfl
theorem m_section_body : ∀ as Q X, fs_section_body as Q X → w_section_body (as ++ List.replicate 1 Sl.no) (endP 1 Q X) := by
  rintro as Q X ⟨l, rfl, ok, hne, h⟩
  obtain ⟨_, hz, _⟩ := okS_cut ok (SubOf.id l)
  obtain ⟨c, hc⟩ : ∃ c, l.getLast? = some c := by
    cases e : l.getLast? with
    | some c => exact ⟨c, rfl⟩
    | none => rw [List.getLast?_eq_none_iff] at e; exact absurd e hne
  have ha := atI_last (xs := (ofL l).cps.toList) (by rw [ofL_l]; exact hc)
  have e1 : cutS (ofL l) (some 1) (some (-1)) = ofL (secOf l) := secOf_sl l
  have e3 : decide (1 < (l.length : Int)) = decide (1 < l.length) := by
    rw [decide_eq_decide]; omega
  have e4 : lastIs 93 l = decide (c = 93) := by
    unfold lastIs
    rw [hc]
    simp
  dsimp! only [w_section_body, w_section_body_2, w_section_body_1, fs_is_section]
  refine ⟨hz, ?_⟩
  simp only [e1]
  refine ⟨hz, c, ha, ?_⟩
  rw [sg_beq c "]" 93 (by decide +kernel)]
  unfold sectionB at h
  rw [e4] at h
  cases h1 : decide (c = 93) with
  | false => simpa [h1, Body.d] using h
  | true =>
    dsimp! only [h1] at h ⊢
    refine ⟨hz, ?_⟩
    rw [ofL_len, e3]
    cases h2 : decide (1 < l.length) with
    | false => simpa [h2, Body.d] using h
    | true =>
      dsimp! only [h2] at h ⊢
      have e5 : (ofL (secOf l) == Str.ofString "") = decide (secOf l = []) := by rw [ofL_beq, cs_empty]
      rw [e5]
      cases h3 : decide (secOf l = []) with
      | true => simpa [h3, Body.d] using h
      | false =>
        dsimp! only [h3] at h ⊢
        refine ⟨_, rfl, ((sub_sec l).ok ok), ?_⟩
        cases h4 : isSectionS (ofL (secOf l)) with
        | true => simpa [h4, Body.d] using h
        | false => simpa [h4, Body.d] using h

def w_when_body_1 : WS := (wRet (wTup (wCons (wC (PyData.str "when")) (wCons (wTup (wCons (wVar 1) (wCons (wVar 5) (wCons (wVar 4) wNil)))) wNil))))
def w_when_body_2 : WS := (wSeq (wIfS (wB (wBin fLt (wLenSet (wBor 5)) (wPrim fLen (wCons (wBor 5) wNil)))) (wRet (wC PyData.none)) wNext) w_when_body_1)
def w_when_body_3 : WS := (wSeq (wIfS (wOrT (wNotT (wB (wCall (fs_is_plain) (wCons (wVar 1) wNil)))) (wOrT (wNotT (wB (wPrim fAll (wCons (wLc (wIt (wVar 5)) (.n 6) wYes (wCall (fs_is_word) (wCons (wVar 6) wNil)) [6]) wNil)))) (wB (wBin (fIn false) (wC (PyData.str "not")) (wBor 5))))) (wRet (wC PyData.none)) wNext) w_when_body_2)
def w_when_body_4 : WS := (wSeq (wSet (wPrim fToTup (wCons (wM1 fSplit (wVar 3) (wC (PyData.str ", "))) wNil)) 5) w_when_body_3)
def w_when_body_5 : WS := (wSeq (wIfS (wNotT (wB (wVar 4))) (wSet (wSl fSl (wBor 3) (wSome (wC (PyData.int 4))) wNone) 3) wNext) w_when_body_4)
def w_when_body_6 : WS := (wSeq (wSet (wNotV (wM1 fStart (wVar 3) (wC (PyData.str "not ")))) 4) w_when_body_5)
def w_when_body : WS := (wSeq (wAsg (wM1 fPart (wSl fSl (wBor 0) (wSome (wC (PyData.int 5))) wNone) (wC (PyData.str " is "))) (.t [1, 2, 3])) w_when_body_6)

theorem set_lt {m ks : List Str} (nd : m.Nodup) (hm : ∀ z, z ∈ m ↔ z ∈ ks) : decide ((m.length : Int) < (ks.length : Int)) = !decide ks.Nodup := by
  by_cases h : ks.Nodup
  · have h1 := (perm_len nd (fun z hz => (hm z).mp hz) (by
      have := (perm_len h (fun z hz => (hm z).mpr hz) : m.length ≤ ks.length → m.Perm ks)
      by_cases q : m.length ≤ ks.length
      · exact Nat.le_of_eq (this q).length_eq.symm
      · omega)).length_eq
    rw [decide_eq_true h, decide_eq_false (by omega)]
    rfl
  · rw [decide_eq_false h, decide_eq_true]
    · rfl
    · by_cases q : ks.length ≤ m.length
      · exact absurd ((perm_len nd (fun z hz => (hm z).mp hz) q).nodup_iff.mpr nd) h
      · omega
theorem nodup_ofL : ∀ vs : List (List Nat), (vs.map ofL).Nodup ↔ vs.Nodup
  | [] => by simp
  | v :: vs => by
    rw [List.map_cons, List.nodup_cons, List.nodup_cons, nodup_ofL vs]
    have : ofL v ∈ vs.map ofL ↔ v ∈ vs := by
      rw [List.mem_map]
      exact ⟨fun ⟨a, ha, e⟩ => by rw [← ofL_inj e]; exact ha, fun h => ⟨v, h, rfl⟩⟩
    rw [this]
theorem strsD_codes : ∀ vs : List (List Nat), strsD (vs.map codeD) = some (vs.map ofL)
  | [] => rfl
  | v :: vs => by
    show (strsD (vs.map codeD)).map (ofL v :: ·) = _
    rw [strsD_codes vs]
    rfl
theorem inD_codes (s : String) (vs : List (List Nat)) : inD (.str (Str.ofString s)) (vs.map codeD) = decide (cs s ∈ vs) := by
  have e : vs.map codeD = (vs.map ofL).map PyData.str := by rw [List.map_map]; rfl
  rw [e, inD_strs, decide_eq_decide, List.mem_map]
  exact ⟨fun ⟨a, ha, q⟩ => by rw [← ofL_cs] at q; rw [← ofL_inj q]; exact ha, fun h => ⟨_, h, ofL_cs s⟩⟩
theorem flat_codes (vs : List (List Nat)) : (vs.map codeD).all flat = true := by
  have e : vs.map codeD = (vs.map ofL).map PyData.str := by rw [List.map_map]; rfl
  rw [e]
  exact flat_strs _
theorem starts_ofL (l : List Nat) (s : String) : Txt.startswith (ofL l) (Str.ofString s) = pre (cs s) l := by
  rw [starts_eq, ofL_l]
  rfl
theorem restOf_sub (r : List Nat) : SubOf (restOf r) r := by
  unfold restOf
  split
  · exact SubOf.id r
  · exact sub_drop r 4
def fs_when_body : FS := fun as Q _ => ∃ l : List Nat, as = [.v (codeD l)] ∧ okS (ofL l) = true ∧ l.length ≤ 3000 ∧ Q (.d (whenB l).d) []
theorem l_when_body : ∀ as Q X, fs_when_body as Q X → as.length = 1 := by rintro as Q X ⟨_, rfl, _⟩; rfl
theorem m_when_body : ∀ as Q X, fs_when_body as Q X → w_when_body (as ++ List.replicate 6 Sl.no) (endP 1 Q X) := by
  rintro as Q X ⟨l, rfl, ok, hl, h⟩
  obtain ⟨_, hz, _⟩ := okS_cut ok (SubOf.id l)
  have s5 := sub_drop l 5
  obtain ⟨ok5, hz5, _⟩ := okS_cut ok s5
  have e5 : cutS (ofL l) (some 5) none = ofL (l.drop 5) := drop_sl l 5
  have ep := part_ofL (l.drop 5) " is " (by decide +kernel)
  dsimp! only [w_when_body]
  refine ⟨hz, ?_⟩
  rw [e5]
  refine ⟨by decide +kernel, hz5, ?_⟩
  rw [ep]
  have sr := (sub_part2 (cs " is ") (l.drop 5)).trans s5
  have sf := (sub_part1 (cs " is ") (l.drop 5)).trans s5
  dsimp! only [w_when_body_6]
  rw [starts_ofL]
  unfold whenB at h
  revert h
  generalize (partL (cs " is ") (l.drop 5)).2.2 = r at sr
  generalize (partL (cs " is ") (l.drop 5)).1 = f at sf
  generalize (if (partL (cs " is ") (l.drop 5)).2.1 = true then Str.ofString " is " else Str.empty) = isw
  intro h
  obtain ⟨okr, hzr, _⟩ := okS_cut ok sr
  obtain ⟨okf, _, _⟩ := okS_cut ok sf
  have srr := (restOf_sub r).trans sr
  obtain ⟨_, _, hz2⟩ := okS_cut ok srr
  have hp : (!pre (cs "not ") r) = posOf r := rfl
  rw [hp]
  have four : w_when_body_4 [.v (codeD l), .v (.str (ofL f)), .v (.str isw), .v (.str (ofL (restOf r))), .v (.bool (posOf r)), .no, .no] (endP 1 Q X) := by
    have es := split_ofL (restOf r) ", " (by decide +kernel) (by decide +kernel)
    have hsub : ∀ p ∈ splL (cs ", ") (restOf r), SubOf p l := fun p hp => (splK_sub _ _ _ p hp).trans srr
    have hlen : (splL (cs ", ") (restOf r)).length ≤ 3001 := by
      have h1 : (splL (cs ", ") (restOf r)).length ≤ (restOf r).length + 1 := splK_len (cs ", ") (restOf r) 0
      have h2 := srr.len
      omega
    dsimp! only [w_when_body_4]
    refine ⟨by decide +kernel, hz2, ?_⟩
    rw [es, List.map_map]
    revert h hsub hlen
    generalize splL (cs ", ") (restOf r) = vs
    intro h hsub hlen
    unfold whenBody at h
    have eD : vs.map (PyData.str ∘ ofL) = vs.map codeD := rfl
    rw [eD]
    dsimp! only [w_when_body_3, fs_is_plain]
    refine ⟨_, rfl, okf, ?_⟩
    show if (!isPlainS (ofL f)) = true then _ else _
    cases h1 : isPlainS (ofL f) with
    | false => simpa [h1, Body.d] using h
    | true =>
      dsimp! only [h1] at h ⊢
      refine ⟨by rw [List.length_map]; exact Nat.lt_of_le_of_lt hlen (by decide), lcI_mapE vs codeD (fun p => .bool (isWordS (ofL p))) rfl (fun p hp Kn kn => ?_) ?_⟩
      · dsimp! only [fs_is_word]
        exact ⟨_, rfl, (hsub p hp).ok ok, kn⟩
      · refine ⟨_, bools_map _ _, ?_⟩
        simp only [wSeq, wIfS, wRet, wRetN, wNext, wBreak, wCont, wNever, wSet, wAsg, wPar, wExpr, wFor, wApp, wPop, wSetIx, wVar, wBor, wTake, wC, wBin, wNil, wCons, wPrim, wCall, wTup, wLst, wSl, wNone, wSome, wM0, wM1, wB, wAndT, wOrT, wNotT, wAndV, wOrV, wNotV, wIf, wIsi, wIsi2, wNeg, wChain, wSortedSet, X_txl, X_txt, wIt, wIt.rdf, wRng1, wRng2, wLc, wYes, lcS, wipeG, backG, noMut, rd_d, rd_o, rd_b, rdf_d, rdf_o, fz_d, fz_o, fz_b, sl_d, sl_o, ok_d, ok_o, argSl_d, argSl_o, argSl_b, items_l, items_t, items_s, rds, rdF, stOk_eq, ncO_some, nc_v, nc_own, nc_no, stOks, setAll, wG, mutAt, putAt, Sl.mu, Sl.put, argSls, noB, fewB, putB, endP, cellsOf, cellF, List.getElem?_cons_zero, List.getElem?_cons_succ, List.getElem?_nil, List.set_cons_zero, List.set_cons_succ, List.append_eq, List.nil_append, List.cons_append, List.replicate, List.take_succ_cons, List.take_zero, List.take_nil, List.filterMap_cons, List.filterMap_nil, Option.map_some, Option.map_none, List.length_cons, List.length_nil, wExt, rdO_o, rdO_b, wDin, wLc2, lc2S, wAugI, wKin, wKix, wDix, wMinN, wEnum, wZip, wForE, wGE, wDget, wDget2, wSortedD, wLenSet, seqD_l, seqD_t, textsOf_l, textsOf_t, List.all_map]
        have ea : (vs.all (id ∘ fun p => isWordS (ofL p))) = vs.all fun v => isWordS (ofL v) := rfl
        rw [ea]
        cases h2 : vs.all fun v => isWordS (ofL v) with
        | false => simpa [h2, Body.d] using h
        | true =>
          dsimp! only [h2, flat_codes, inD_codes, flat_str] at h ⊢
          cases h3 : decide (cs "not" ∈ vs) with
          | true => simpa [h3, Body.d] using h
          | false =>
            dsimp! only [h3, w_when_body_2, strsD_codes] at h ⊢
            refine ⟨by rw [List.length_map]; omega, fun m nd hm => ?_⟩
            have el := set_lt nd hm
            rw [List.length_map] at el
            rw [List.length_map, el]
            have en : decide (vs.map ofL).Nodup = decide vs.Nodup := by rw [decide_eq_decide]; exact nodup_ofL vs
            rw [en]
            cases h4 : decide vs.Nodup with
            | false => simpa [h4, Body.d] using h
            | true =>
              dsimp! only [h4, w_when_body_1] at h ⊢
              exact ⟨by decide, by decide, h⟩
  dsimp! only [w_when_body_5]
  cases hpos : posOf r with
  | true =>
    have : restOf r = r := by unfold restOf; rw [if_pos hpos]
    rw [this, hpos] at four
    simpa only [wSeq, wIfS, wRet, wRetN, wNext, wBreak, wCont, wNever, wSet, wAsg, wPar, wExpr, wFor, wApp, wPop, wSetIx, wVar, wBor, wTake, wC, wBin, wNil, wCons, wPrim, wCall, wTup, wLst, wSl, wNone, wSome, wM0, wM1, wB, wAndT, wOrT, wNotT, wAndV, wOrV, wNotV, wIf, wIsi, wIsi2, wNeg, wChain, wSortedSet, X_txl, X_txt, wIt, wIt.rdf, wRng1, wRng2, wLc, wYes, lcS, wipeG, backG, noMut, rd_d, rd_o, rd_b, rdf_d, rdf_o, fz_d, fz_o, fz_b, sl_d, sl_o, ok_d, ok_o, argSl_d, argSl_o, argSl_b, items_l, items_t, items_s, rds, rdF, stOk_eq, ncO_some, nc_v, nc_own, nc_no, stOks, setAll, wG, mutAt, putAt, Sl.mu, Sl.put, argSls, noB, fewB, putB, endP, cellsOf, cellF, List.getElem?_cons_zero, List.getElem?_cons_succ, List.getElem?_nil, List.set_cons_zero, List.set_cons_succ, List.append_eq, List.nil_append, List.cons_append, List.replicate, List.take_succ_cons, List.take_zero, List.take_nil, List.filterMap_cons, List.filterMap_nil, Option.map_some, Option.map_none, List.length_cons, List.length_nil, wExt, rdO_o, rdO_b, wDin, wLc2, lc2S, wAugI, wKin, wKix, wDix, wMinN, wEnum, wZip, wForE, wGE, wDget, wDget2, wSortedD, wLenSet, seqD_l, seqD_t, textsOf_l, textsOf_t, F_add_i, F_add_s, F_add_l, F_add_t, F_int, F_cmp_i, F_cmp_s, F_in_l, F_in_t, F_in_s, F_ix_l, F_ix_t, F_ix_s, F_sl_l, F_sl_t, F_sl_s, F_len_l, F_len_t, F_len_s, F_toInt, F_toStr, F_toTup_l, F_toTup_t, F_toLst_l, F_toLst_t, F_all, F_any, F_split, F_join_l, F_join_t, F_part, F_start, F_end, F_strip, F_sorted_l, F_sorted_t, N_none, N_str, N_int, N_bool, N_tup, N_lst, S_str, S_none, S_int, S_bool, S_tup, S_lst, I_str, I_none, I_int, I_bool, I_tup, I_lst, B_str, B_none, B_int, B_bool, B_tup, B_lst, T_str, T_none, T_int, T_bool, T_tup, T_lst, L_str, L_none, L_int, L_bool, L_tup, L_lst, D_str, D_none, D_int, D_bool, D_tup, D_lst, N_dic, S_dic, I_dic, B_dic, T_dic, L_dic, D_dic, E_ss, E_ii, E_bb, E_ns, E_is, E_bs, E_nn, isA_str, isA_int, isA_bool, isA_tuple, isA_list, isA_dict, fEq, fNe, fIsN, fNotN, eqv_str, eqv_int, eqv_bool, F_sumI, exists_eq_left', exists_eq_left, exists_and_left, R.d.injEq, R.o.injEq, PyData.bool.injEq, PyData.str.injEq, PyData.int.injEq, PyData.tuple.injEq, PyData.list.injEq, List.cons.injEq, Option.some.injEq, and_true, true_and, and_self, Bool.not_true, Bool.not_false, Bool.false_eq_true, Bool.true_eq_false, Bool.true_and, Bool.false_and, Bool.true_or, Bool.false_or, if_true, if_false, reduceIte, reduceCtorEq, not_false_eq_true, ne_eq, true_or, or_true, false_or, or_false, List.map_nil, List.map_cons, Option.toList_some, Option.toList_none, false_and, and_false, Bool.not_eq_true, Bool.or_false, Bool.or_true, Bool.and_true, Bool.and_false] using four
  | false =>
    have : restOf r = r.drop 4 := by unfold restOf; rw [if_neg (by rw [hpos]; simp)]
    rw [this, hpos] at four
    have e4 : cutS (ofL r) (some 4) none = ofL (r.drop 4) := drop_sl r 4
    dsimp! only [e4]
    exact ⟨hzr, four⟩

def w_statement_body_1 : WS := (wRet (wTup (wCons (wC (PyData.str "statement")) (wCons (wVar 1) (wCons (wKix [("=", (PyData.str "set")), ("+=", (PyData.str "append")), ("^=", (PyData.str "prepend")), ("-=", (PyData.str "drop")), ("?=", (PyData.str "default"))] (wBor 4)) (wCons (wVar 7) wNil))))))
def w_statement_body_2 : WS := (wSeq (wIfS (wOrT (wNotT (wB (wPrim fAll (wCons (wLc (wIt (wVar 7)) (.n 8) wYes (wCall (fs_is_item_word) (wCons (wVar 8) wNil)) [8]) wNil)))) (wAndT (wB (wBin fEq (wPrim fLen (wCons (wBor 7) wNil)) (wC (PyData.int 0)))) (wB (wBin (fIn true) (wBor 4) (wTup (wCons (wC (PyData.str "=")) (wCons (wC (PyData.str "?=")) wNil))))))) (wRet (wC PyData.none)) wNext) w_statement_body_1)
def w_statement_body_3 : WS := (wSeq (wIfS (wB (wBin fNe (wBor 5) (wC (PyData.str "")))) (wSet (wPrim fToTup (wCons (wM1 fSplit (wVar 6) (wC (PyData.str ", "))) wNil)) 7) wNext) w_statement_body_2)
def w_statement_body_4 : WS := (wSeq (wSet (wTup wNil) 7) w_statement_body_3)
def w_statement_body_5 : WS := (wSeq (wIfS (wOrT (wNotT (wB (wCall (fs_is_key) (wCons (wVar 1) wNil)))) (wB (wKin true [("=", (PyData.str "set")), ("+=", (PyData.str "append")), ("^=", (PyData.str "prepend")), ("-=", (PyData.str "drop")), ("?=", (PyData.str "default"))] (wBor 4)))) (wRet (wC PyData.none)) wNext) w_statement_body_4)
def w_statement_body_6 : WS := (wSeq (wAsg (wM1 fPart (wVar 3) (wC (PyData.str " "))) (.t [4, 5, 6])) w_statement_body_5)
def w_statement_body : WS := (wSeq (wAsg (wM1 fPart (wVar 0) (wC (PyData.str " "))) (.t [1, 2, 3])) w_statement_body_6)

theorem wordOf_data (s : Str) : List.lookup s wordsL = (wordOf s).map PyData.str := by
  have h : ∀ kv : List (Str × Str), List.lookup s (kv.map fun p => (p.1, PyData.str p.2)) = (kv.lookup s).map PyData.str := fun kv => by
    induction kv with
    | nil => rfl
    | cons p r ih =>
      obtain ⟨a, b⟩ := p
      rw [List.map_cons, List.lookup_cons, List.lookup_cons]
      cases (s == a) with
      | true => rfl
      | false => exact ih
  exact h [("=", "set"), ("+=", "append"), ("^=", "prepend"), ("-=", "drop"), ("?=", "default")]
theorem words_eq : wordsL = [(Str.ofString "=", PyData.str (Str.ofString "set")), (Str.ofString "+=", PyData.str (Str.ofString "append")), (Str.ofString "^=", PyData.str (Str.ofString "prepend")), (Str.ofString "-=", PyData.str (Str.ofString "drop")), (Str.ofString "?=", PyData.str (Str.ofString "default"))] := rfl
theorem sp_cs : cs " " = [32] := by decide +kernel
theorem itemsOf_sub (p : List Nat × Bool × List Nat) : ∀ i ∈ itemsOf p, SubOf i p.2.2 := by
  unfold itemsOf
  split
  · exact splK_sub _ _ _
  · intro i h; cases h
def fs_statement_body : FS := fun as Q _ => ∃ l : List Nat, as = [.v (codeD l)] ∧ okS (ofL l) = true ∧ l.length ≤ 3000 ∧ Q (.d (statementB l).d) []
theorem l_statement_body : ∀ as Q X, fs_statement_body as Q X → as.length = 1 := by rintro as Q X ⟨_, rfl, _⟩; rfl
theorem m_statement_body : ∀ as Q X, fs_statement_body as Q X → w_statement_body (as ++ List.replicate 8 Sl.no) (endP 1 Q X) := by
  rintro as Q X ⟨l, rfl, ok, hl, h⟩
  obtain ⟨_, hz, _⟩ := okS_cut ok (SubOf.id l)
  have ep := part_ofL l " " (by decide +kernel)
  rw [sp_cs] at ep
  dsimp! only [w_statement_body]
  refine ⟨by decide +kernel, hz, ?_⟩
  rw [ep]
  have sr := sub_part2 [32] l
  have sk := sub_part1 [32] l
  unfold statementB at h
  revert h
  generalize (partL [32] l).2.2 = r at sr
  generalize (partL [32] l).1 = key at sk
  generalize (if (partL [32] l).2.1 = true then Str.ofString " " else Str.empty) = b0
  intro h
  obtain ⟨okr, hzr, _⟩ := okS_cut ok sr
  obtain ⟨okk, _, _⟩ := okS_cut ok sk
  have ep2 := part_ofL r " " (by decide +kernel)
  rw [sp_cs] at ep2
  dsimp! only [w_statement_body_6]
  refine ⟨by decide +kernel, hzr, ?_⟩
  rw [ep2]
  have ss := (sub_part1 [32] r).trans sr
  have sl := (sub_part2 [32] r).trans sr
  have hsub := itemsOf_sub (partL [32] r)
  have hfour : ∀ items : List (List Nat), items = itemsOf (partL [32] r) → ∀ (sg' b' ls : Str), sg' = ofL (partL [32] r).1 → (∀ kv, wordOf sg' = some kv → isKeyS (ofL key) = true →
      w_statement_body_2 [.v (codeD l), .v (.str (ofL key)), .v (.str b0), .v (.str (ofL r)), .v (.str sg'), .v (.str b'), .v (.str ls), .v (.tuple (items.map codeD)), .no] (endP 1 Q X)) := by
    intro items hi sg' b' ls hsg w hw hk
    have hlen : items.length ≤ 3001 := by
      rw [hi]
      unfold itemsOf
      split
      · have h1 : (splL (cs ", ") (partL [32] r).2.2).length ≤ (partL [32] r).2.2.length + 1 := splK_len _ _ 0
        have h2 := sl.len
        omega
      · simp
    have hsi : ∀ i ∈ items, SubOf i l := fun i h => by rw [hi] at h; exact (hsub i h).trans sl
    rw [← hi, ← hsg] at h
    unfold stBody at h
    rw [hw] at h
    simp only [hk, Bool.true_and] at h
    dsimp! only [w_statement_body_2]
    refine ⟨by rw [List.length_map]; exact Nat.lt_of_le_of_lt hlen (by decide), lcI_mapE items codeD (fun p => .bool (isItemS (ofL p))) rfl (fun p hp Kn kn => ?_) ?_⟩
    · dsimp! only [fs_is_item_word]
      exact ⟨_, rfl, (hsi p hp).ok ok, kn⟩
    · refine ⟨_, bools_map _ _, ?_⟩
      simp only [wSeq, wIfS, wRet, wRetN, wNext, wBreak, wCont, wNever, wSet, wAsg, wPar, wExpr, wFor, wApp, wPop, wSetIx, wVar, wBor, wTake, wC, wBin, wNil, wCons, wPrim, wCall, wTup, wLst, wSl, wNone, wSome, wM0, wM1, wB, wAndT, wOrT, wNotT, wAndV, wOrV, wNotV, wIf, wIsi, wIsi2, wNeg, wChain, wSortedSet, X_txl, X_txt, wIt, wIt.rdf, wRng1, wRng2, wLc, wYes, lcS, wipeG, backG, noMut, rd_d, rd_o, rd_b, rdf_d, rdf_o, fz_d, fz_o, fz_b, sl_d, sl_o, ok_d, ok_o, argSl_d, argSl_o, argSl_b, items_l, items_t, items_s, rds, rdF, stOk_eq, ncO_some, nc_v, nc_own, nc_no, stOks, setAll, wG, mutAt, putAt, Sl.mu, Sl.put, argSls, noB, fewB, putB, endP, cellsOf, cellF, List.getElem?_cons_zero, List.getElem?_cons_succ, List.getElem?_nil, List.set_cons_zero, List.set_cons_succ, List.append_eq, List.nil_append, List.cons_append, List.replicate, List.take_succ_cons, List.take_zero, List.take_nil, List.filterMap_cons, List.filterMap_nil, Option.map_some, Option.map_none, List.length_cons, List.length_nil, wExt, rdO_o, rdO_b, wDin, wLc2, lc2S, wAugI, wKin, wKix, wDix, wMinN, wEnum, wZip, wForE, wGE, wDget, wDget2, wSortedD, wLenSet, seqD_l, seqD_t, textsOf_l, textsOf_t, List.all_map]
      have ea : (items.all (id ∘ fun p => isItemS (ofL p))) = items.all fun v => isItemS (ofL v) := rfl
      rw [ea]
      have one : Q (.d (Body.st key w items).d) [] → w_statement_body_1 [.v (codeD l), .v (.str (ofL key)), .v (.str b0), .v (.str (ofL r)), .v (.str sg'), .v (.str b'), .v (.str ls), .v (.tuple (items.map codeD)), .no] (endP 1 Q X) := fun q => by
        have el := wordOf_data sg'
        rw [hw, words_eq] at el
        dsimp! only [w_statement_body_1]
        rw [el]
        dsimp! only [id_eq]
        exact ⟨by decide, q⟩
      cases h2 : items.all fun v => isItemS (ofL v) with
      | false => simpa [h2, Body.d] using h
      | true =>
        have e0 : (((items.map codeD).length : Int) == 0) = decide (items = []) := by
          rw [Bool.eq_iff_iff, beq_iff_eq, decide_eq_true_eq, List.length_map]
          constructor
          · intro q; exact List.length_eq_zero_iff.mp (by omega)
          · intro q; rw [q]; rfl
        have e1 : inD (.str sg') [.str (Str.ofString "="), .str (Str.ofString "?=")] = (decide (sg' = "=") || decide (sg' = "?=")) := by
          have := inD_strs sg' ["=", "?="]
          refine Eq.trans this ?_
          rw [Bool.eq_iff_iff]
          simp
        have f1 : [PyData.str (Str.ofString "="), PyData.str (Str.ofString "?=")].all flat = true := flat_strs ["=", "?="]
        simp only [h2, Bool.true_and] at h
        dsimp! only [h2, e0, e1, f1, flat_str]
        cases h3 : decide (items = []) with
        | false =>
          dsimp! only [h3] at h ⊢
          exact one h
        | true =>
          dsimp! only [h3] at h ⊢
          refine ⟨by decide, ?_⟩
          cases h4 : (decide (sg' = "=") || decide (sg' = "?=")) with
          | false => simpa [h4, Body.d] using h
          | true =>
            dsimp! only [h4] at h ⊢
            exact one h
  dsimp! only [w_statement_body_5, fs_is_key]
  refine ⟨_, rfl, okk, ?_⟩
  show if (!isKeyS (ofL key)) = true then _ else _
  cases h1 : isKeyS (ofL key) with
  | false =>
    unfold stBody at h
    cases hw : wordOf (ofL (partL [32] r).1) with
    | none => rw [hw] at h; simpa [h1, Body.d] using h
    | some w => rw [hw] at h; simpa [h1, Body.d] using h
  | true =>
    have el := wordOf_data (ofL (partL [32] r).1)
    rw [words_eq] at el
    dsimp! only [id_eq]
    rw [el]
    cases hw : wordOf (ofL (partL [32] r).1) with
    | none =>
      unfold stBody at h
      rw [hw] at h
      simpa [hw, Body.d] using h
    | some w =>
      dsimp! only [hw]
      rw [if_neg (show ¬ ((true != (some (PyData.str w)).isSome) = true) from by simp)]
      dsimp! only [w_statement_body_4, w_statement_body_3]
      have four := hfour _ rfl (ofL (partL [32] r).1)
      unfold itemsOf at four
      cases hb : (partL [32] r).2.1 with
      | false =>
        rw [hb] at four
        have eb : ((if false = true then Str.ofString " " else Str.empty) == Str.ofString "") = true := by decide +kernel
        have eb' : (if false = true then Str.ofString " " else Str.empty) = Str.empty := rfl
        have := four Str.empty (ofL (partL [32] r).2.2) rfl w hw h1
        dsimp! only [hb, eb, eb', str_empty, beq_self_eq_true, bne] at this ⊢
        exact ⟨by decide, this⟩
      | true =>
        rw [hb] at four
        have eb : ((Str.ofString " ") == Str.ofString "") = false := by decide +kernel
        have := four (Str.ofString " ") (ofL (partL [32] r).2.2) rfl w hw h1
        obtain ⟨_, _, hz2⟩ := okS_cut ok sl
        have es := split_ofL (partL [32] r).2.2 ", " (by decide +kernel) (by decide +kernel)
        dsimp! only [hb, eb, bne] at this ⊢
        refine ⟨by decide, by decide +kernel, hz2, ?_⟩
        rw [es, List.map_map]
        exact this

def w_told_by_1 : WS := (wRet (wCall (fs_statement_body) (wCons (wVar 0) wNil)))
def w_told_by_2 : WS := (wSeq (wIfS (wOrT (wB (wBin fEq (wBor 1) (wC (PyData.str "unset")))) (wB (wBin fEq (wBor 1) (wC (PyData.str "lock"))))) (wRet (wIf (wB (wCall (fs_is_key) (wCons (wVar 3) wNil))) (wTup (wCons (wC (PyData.str "statement")) (wCons (wVar 3) (wCons (wVar 1) (wCons (wTup wNil) wNil))))) (wC PyData.none))) wNext) w_told_by_1)
def w_told_by_3 : WS := (wSeq (wIfS (wB (wBin fEq (wBor 1) (wC (PyData.str "when")))) (wRet (wCall (fs_when_body) (wCons (wVar 0) wNil))) wNext) w_told_by_2)
def w_told_by_4 : WS := (wSeq (wAsg (wM1 fPart (wVar 0) (wC (PyData.str " "))) (.t [1, 2, 3])) w_told_by_3)
def w_told_by_5 : WS := (wSeq (wIfS (wB (wBin fEq (wBin fIx (wBor 0) (wC (PyData.int 0))) (wC (PyData.str "[")))) (wRet (wCall (fs_section_body) (wCons (wVar 0) wNil))) wNext) w_told_by_4)
def w_told_by_6 : WS := (wSeq (wIfS (wB (wBin fEq (wBor 0) (wC (PyData.str "end")))) (wRet (wTup (wCons (wC (PyData.str "end")) wNil))) wNext) w_told_by_5)
def w_told_by : WS := (wSeq (wIfS (wB (wBin fEq (wBor 0) (wC (PyData.str "")))) (wRet (wTup (wCons (wC (PyData.str "nothing")) wNil))) wNext) w_told_by_6)

theorem eq_cs (l : List Nat) (s : String) : (ofL l == Str.ofString s) = decide (l = cs s) := ofL_beq l s
def fs_told_by : FS := fun as Q _ => ∃ l : List Nat, as = [.v (codeD l)] ∧ okS (ofL l) = true ∧ l.length ≤ 3000 ∧ Q (.d (toldB l).d) []
theorem l_told_by : ∀ as Q X, fs_told_by as Q X → as.length = 1 := by rintro as Q X ⟨_, rfl, _⟩; rfl
theorem m_told_by : ∀ as Q X, fs_told_by as Q X → w_told_by (as ++ List.replicate 3 Sl.no) (endP 1 Q X) := by
  rintro as Q X ⟨l, rfl, ok, hl, h⟩
  obtain ⟨_, hz, _⟩ := okS_cut ok (SubOf.id l)
  unfold toldB at h
  dsimp! only [w_told_by]
  rw [eq_cs, cs_empty]
  by_cases h0 : l = []
  · subst h0
    simpa [Body.d] using h
  rw [if_neg h0] at h
  rw [decide_eq_false h0]
  dsimp! only [w_told_by_6]
  rw [eq_cs]
  by_cases h1 : l = cs "end"
  · rw [if_pos h1] at h
    rw [decide_eq_true h1]
    simpa [Body.d] using h
  rw [if_neg h1] at h
  rw [decide_eq_false h1]
  dsimp! only [w_told_by_5, fs_section_body]
  obtain ⟨c, r0, ec⟩ : ∃ c r, l = c :: r := by
    cases l with
    | nil => exact absurd rfl h0
    | cons c r => exact ⟨c, r, rfl⟩
  have ha : atI (ofL l).cps.toList 0 = some c := by
    have := atI_nat (xs := (ofL l).cps.toList) (k := 0) (x := c) (by rw [ofL_l, ec]; rfl)
    simpa using this
  refine ⟨hz, c, ha, ?_⟩
  rw [sg_beq c "[" 91 (by decide +kernel)]
  have eh : l.head? = some c := by rw [ec]; rfl
  rw [eh] at h
  by_cases h2 : c = 91
  · rw [h2, if_pos rfl] at h
    rw [decide_eq_true h2]
    dsimp! only [id_eq]
    exact ⟨l, rfl, ok, h0, h⟩
  rw [if_neg (by intro q; exact h2 (Option.some.inj q))] at h
  rw [decide_eq_false h2]
  have ep := part_ofL l " " (by decide +kernel)
  rw [sp_cs] at ep
  dsimp! only [w_told_by_4]
  refine ⟨by decide +kernel, hz, ?_⟩
  rw [ep]
  have sr := sub_part2 [32] l
  dsimp! only [w_told_by_3, fs_when_body]
  rw [eq_cs]
  generalize (if (partL [32] l).2.1 = true then Str.ofString " " else Str.empty) = b0
  by_cases h3 : (partL [32] l).1 = cs "when"
  · rw [if_pos h3] at h
    rw [decide_eq_true h3]
    dsimp! only [id_eq]
    exact ⟨l, rfl, ok, hl, h⟩
  rw [if_neg h3] at h
  rw [decide_eq_false h3]
  dsimp! only [w_told_by_2, w_told_by_1, fs_is_key, fs_statement_body]
  rw [eq_cs, eq_cs]
  have okr := sr.ok ok
  have fin : (partL [32] l).1 = cs "unset" ∨ (partL [32] l).1 = cs "lock" → ∀ P : Prop, (Q (.d (if isKeyS (ofL (partL [32] l).2.2) = true then Body.st (partL [32] l).2.2 (ofL (partL [32] l).1) [] else .no).d) [] → P) → P := fun hh P k => by
    rw [if_pos hh] at h
    exact k h
  by_cases h4 : (partL [32] l).1 = cs "unset"
  · rw [if_pos (Or.inl h4)] at h
    rw [decide_eq_true h4]
    dsimp! only [id_eq]
    refine ⟨_, rfl, okr, ?_⟩
    show if isKeyS _ = true then _ else _
    cases hk : isKeyS (ofL (partL [32] l).2.2) with
    | false => simpa [hk, Body.d] using h
    | true => simpa [hk, Body.d] using h
  · rw [decide_eq_false h4]
    by_cases h5 : (partL [32] l).1 = cs "lock"
    · rw [if_pos (Or.inr h5)] at h
      rw [decide_eq_true h5]
      dsimp! only [id_eq]
      refine ⟨_, rfl, okr, ?_⟩
      show if isKeyS _ = true then _ else _
      cases hk : isKeyS (ofL (partL [32] l).2.2) with
      | false => simpa [hk, Body.d] using h
      | true => simpa [hk, Body.d] using h
    · rw [if_neg (by rintro (q | q); exact h4 q; exact h5 q)] at h
      rw [decide_eq_false h5]
      dsimp! only [id_eq]
      exact ⟨l, rfl, ok, hl, h⟩

def w_body_of_1 : WS := (wRet (wCall (fs_told_by) (wCons (wVar 1) wNil)))
def w_body_of_2 : WS := (wSeq (wIfS (wB (wBin fNe (wBor 2) (wC (PyData.str "")))) (wSet (wM1 (fStripC Txt.rstripChars) (wVar 1) (wC (PyData.str " "))) 1) wNext) w_body_of_1)
def w_body_of_3 : WS := (wSeq (wSet (wM1 (fStripC Txt.lstripChars) (wVar 1) (wC (PyData.str " "))) 1) w_body_of_2)
def w_body_of : WS := (wSeq (wAsg (wM1 fPart (wVar 0) (wC (PyData.str "#"))) (.t [1, 2, 3])) w_body_of_3)

theorem lst_ofL (l : List Nat) : Txt.lstripChars (ofL l) (Str.ofString " ") = ofL (lstL 32 l) := by
  have e : Str.ofString " " = ⟨#[32]⟩ := by decide +kernel
  rw [e, lstrip_eq, ofL_l]
theorem rst_ofL (l : List Nat) : Txt.rstripChars (ofL l) (Str.ofString " ") = ofL (rstL 32 l) := by
  have e : Str.ofString " " = ⟨#[32]⟩ := by decide +kernel
  rw [e, rstrip_eq, ofL_l]
def fs_body_of : FS := fun as Q _ => ∃ l : List Nat, as = [.v (codeD l)] ∧ okS (ofL l) = true ∧ l.length ≤ 3000 ∧ Q (.d (bodyB l).d) []
theorem l_body_of : ∀ as Q X, fs_body_of as Q X → as.length = 1 := by rintro as Q X ⟨_, rfl, _⟩; rfl
theorem m_body_of : ∀ as Q X, fs_body_of as Q X → w_body_of (as ++ List.replicate 3 Sl.no) (endP 1 Q X) := by
  rintro as Q X ⟨l, rfl, ok, hl, h⟩
  obtain ⟨_, hz, _⟩ := okS_cut ok (SubOf.id l)
  have ep := part_ofL l "#" (by decide +kernel)
  have e35 : cs "#" = [35] := by decide +kernel
  rw [e35] at ep
  have s1 := sub_part1 [35] l
  have sl := (sub_lst 32 (partL [35] l).1).trans s1
  have sr := (sub_rst 32 (lstL 32 (partL [35] l).1)).trans sl
  obtain ⟨_, hz1, _⟩ := okS_cut ok s1
  obtain ⟨okl, hzl, _⟩ := okS_cut ok sl
  obtain ⟨okr, hzr, _⟩ := okS_cut ok sr
  unfold bodyB at h
  dsimp! only [w_body_of]
  refine ⟨by decide +kernel, hz, ?_⟩
  rw [ep]
  dsimp! only [w_body_of_3, lst_ofL]
  refine ⟨hz1, ?_⟩
  dsimp! only [w_body_of_2, w_body_of_1, fs_told_by, rst_ofL]
  cases hb : (partL [35] l).2.1 with
  | false =>
    have eb : ((if false = true then Str.ofString "#" else Str.empty) != Str.ofString "") = false := by decide +kernel
    rw [hb] at h
    dsimp! only [eb] at h ⊢
    exact ⟨_, rfl, okl, by have := sl.len; omega, h⟩
  | true =>
    have eb : ((Str.ofString "#") != Str.ofString "") = true := by decide +kernel
    rw [hb] at h
    dsimp! only [eb] at h ⊢
    exact ⟨hzl, _, rfl, okr, by have := sr.len; omega, h⟩

def w_split_lines_1 : WS := (wRet (wTake 1))
def w_split_lines_2 : WS := (wSeq (wIfS (wB (wBin fEq (wBin fIx (wBor 1) (wNeg (wC (PyData.int 1)))) (wC (PyData.str "")))) (wPop 1) wNext) w_split_lines_1)
def w_split_lines : WS := (wSeq (wSet (wM1 fSplit (wVar 0) (wC (PyData.str "\n"))) 1) w_split_lines_2)


def linesL (l : List Nat) : List (List Nat) := if (splL [10] l).getLast? = some [] then (splL [10] l).dropLast else splL [10] l
theorem linesL_sub (l : List Nat) : ∀ p ∈ linesL l, SubOf p l := by
  intro p hp
  refine splK_sub [10] l 0 p ?_
  unfold linesL at hp
  split at hp
  · exact (List.dropLast_subset _) hp
  · exact hp
theorem linesL_len (l : List Nat) : (linesL l).length ≤ l.length + 1 := by
  have h : (splL [10] l).length ≤ l.length + 1 := splK_len [10] l 0
  unfold linesL
  split
  · rw [List.length_dropLast]; omega
  · exact h
theorem nl_cs : cs "\n" = [10] := by decide +kernel
def fs_split_lines : FS := fun as Q _ => ∃ l : List Nat, as = [.v (codeD l)] ∧ okS (ofL l) = true ∧ Q (.o ((linesL l).map codeD)) []
theorem l_split_lines : ∀ as Q X, fs_split_lines as Q X → as.length = 1 := by rintro as Q X ⟨_, rfl, _⟩; rfl
theorem m_split_lines : ∀ as Q X, fs_split_lines as Q X → w_split_lines (as ++ List.replicate 1 Sl.no) (endP 1 Q X) := by
  rintro as Q X ⟨l, rfl, ok, h⟩
  obtain ⟨_, _, hz2⟩ := okS_cut ok (SubOf.id l)
  have es := split_ofL l "\n" (by decide +kernel) (by decide +kernel)
  rw [nl_cs] at es
  obtain ⟨p, ps, e⟩ := splL_ne [10] l
  have eM : (splL [10] l).map (PyData.str ∘ ofL) = (splL [10] l).map codeD := rfl
  dsimp! only [w_split_lines]
  refine ⟨by decide +kernel, hz2, ?_⟩
  rw [es, List.map_map, eM]
  obtain ⟨q, hq⟩ : ∃ q, (splL [10] l).getLast? = some q := by
    rw [e]
    cases h : (p :: ps).getLast? with
    | some q => exact ⟨q, rfl⟩
    | none => rw [List.getLast?_eq_none_iff] at h; cases h
  have ha : atI ((splL [10] l).map codeD) (-1) = some (codeD q) := atI_last (by rw [List.getLast?_map, hq]; rfl)
  have hne : (splL [10] l).map codeD ≠ [] := by rw [e]; simp
  dsimp! only [w_split_lines_2, w_split_lines_1]
  refine ⟨_, ha, ?_⟩
  dsimp! only [id_eq]
  rw [ofL_beq, cs_empty]
  unfold linesL at h
  rw [hq] at h
  by_cases h0 : q = []
  · rw [h0, if_pos rfl] at h
    rw [decide_eq_true h0]
    dsimp! only [id_eq]
    refine ⟨hne, ?_⟩
    rw [List.map_dropLast] at h
    exact h
  · rw [if_neg (by intro z; exact h0 (Option.some.inj z))] at h
    rw [decide_eq_false h0]
    dsimp! only [id_eq]
    exact h

def w_bodies_of : WS := (wRet (wLc (wIt (wCall (fs_split_lines) (wCons (wVar 0) wNil))) (.n 1) wYes (wCall (fs_body_of) (wCons (wVar 1) wNil)) [1]))

def bodiesL (l : List Nat) : List Body := (linesL l).map bodyB
def shortL (l : List Nat) : Prop := ∀ p ∈ linesL l, p.length ≤ 3000
def fs_bodies_of : FS := fun as Q _ => ∃ l : List Nat, as = [.v (codeD l)] ∧ okS (ofL l) = true ∧ shortL l ∧ Q (.o ((bodiesL l).map Body.d)) []
theorem l_bodies_of : ∀ as Q X, fs_bodies_of as Q X → as.length = 1 := by rintro as Q X ⟨_, rfl, _⟩; rfl
theorem m_bodies_of : ∀ as Q X, fs_bodies_of as Q X → w_bodies_of (as ++ List.replicate 1 Sl.no) (endP 1 Q X) := by
  rintro as Q X ⟨l, rfl, ok, sh, h⟩
  have hl := okS_len2 ok
  dsimp! only [w_bodies_of, fs_split_lines]
  refine ⟨l, rfl, ok, ?_⟩
  refine ⟨by rw [List.length_map]; exact Nat.lt_of_le_of_lt (linesL_len l) (Nat.lt_of_le_of_lt (show l.length + 1 ≤ 1000001 by omega) (by decide)), lcI_mapE (linesL l) codeD (fun p => (bodyB p).d) rfl (fun p hp Kn kn => ?_) ?_⟩
  · dsimp! only [fs_body_of]
    exact ⟨p, rfl, (linesL_sub l p hp).ok ok, sh p hp, kn⟩
  · have e : (bodiesL l).map Body.d = (linesL l).map fun p => (bodyB p).d := by unfold bodiesL; rw [List.map_map]; rfl
    rw [e] at h
    exact h

def w_first_bad_1 : WS := (wIfS (wB (wBin fGt (wPrim fLen (wCons (wBor 2) wNil)) (wC (PyData.int 20)))) (wApp 1 (wVar 4)) wNext)
def w_first_bad_2 : WS := (wIfS (wB (wBin fIsN (wBor 5) (wC PyData.none))) (wApp 1 (wVar 4)) (wIfS (wB (wBin fEq (wBin fIx (wBor 5) (wC (PyData.int 0))) (wC (PyData.str "when")))) (wSeq (wApp 2 (wVar 4)) w_first_bad_1) (wIfS (wB (wBin fEq (wBin fIx (wBor 5) (wC (PyData.int 0))) (wC (PyData.str "end")))) (wIfS (wB (wBin fGt (wPrim fLen (wCons (wBor 2) wNil)) (wC (PyData.int 0)))) (wPop 2) (wApp 1 (wVar 4))) wNext)))
def w_first_bad_3 : WS := (wRet (wMinN (wCons (wBin fAdd (wBor 1) (wBor 2)) wNil)))
def w_first_bad_4 : WS := (wSeq (wIfS (wAndT (wB (wBin fNe (wBor 0) (wC (PyData.str "")))) (wNotT (wB (wM1 fEnd (wVar 0) (wC (PyData.str "\n")))))) (wApp 1 (wBin fSub (wPrim fLen (wCons (wBor 3) wNil)) (wC (PyData.int 1)))) wNext) w_first_bad_3)
def w_first_bad_5 : WS := (wSeq (wFor (wEnum (wCons (wVar 3) wNil)) (.t [4, 5]) w_first_bad_2) w_first_bad_4)
def w_first_bad_6 : WS := (wSeq (wSet (wCall (fs_bodies_of) (wCons (wVar 0) wNil)) 3) w_first_bad_5)
def w_first_bad_7 : WS := (wSeq (wSet (wLst wNil) 2) w_first_bad_6)
def w_first_bad : WS := (wSeq (wSet (wLst wNil) 1) w_first_bad_7)

theorem atI_c0 (a : PyData) (l : List PyData) : atI (a :: l) 0 = some a := atI_nat (xs := a :: l) (k := 0) rfl
theorem atI_c1 (a b : PyData) (l : List PyData) : atI (a :: b :: l) 1 = some b := atI_nat (xs := a :: b :: l) (k := 1) rfl
theorem atI_c2 (a b c : PyData) (l : List PyData) : atI (a :: b :: c :: l) 2 = some c := atI_nat (xs := a :: b :: c :: l) (k := 2) rfl
theorem atI_c3 (a b c d : PyData) (l : List PyData) : atI (a :: b :: c :: d :: l) 3 = some d := atI_nat (xs := a :: b :: c :: d :: l) (k := 3) rfl
theorem atI_c4 (a b c d e : PyData) (l : List PyData) : atI (a :: b :: c :: d :: e :: l) 4 = some e := atI_nat (xs := a :: b :: c :: d :: e :: l) (k := 4) rfl
theorem atI_c5 (a b c d e f : PyData) (l : List PyData) : atI (a :: b :: c :: d :: e :: f :: l) 5 = some f := atI_nat (xs := a :: b :: c :: d :: e :: f :: l) (k := 5) rfl

def bpD (p : Body × Nat) : PyData := .tuple [.int (p.2 : Nat), p.1.d]
theorem enum_bodies (bs : List Body) : enumL (bs.map Body.d) = bs.zipIdx.map bpD := by
  refine List.ext_getElem? fun i => ?_
  rw [List.getElem?_map, List.getElem?_zipIdx]
  cases h : bs[i]? with
  | none =>
    rw [List.getElem?_eq_none_iff] at h
    have : (enumL (bs.map Body.d))[i]? = none := by rw [List.getElem?_eq_none_iff, enumL_len, List.length_map]; exact h
    rw [this]
    rfl
  | some b =>
    have := enumL_get (l := bs.map Body.d) (i := i) (d := b.d) (by rw [List.getElem?_map, h]; rfl)
    rw [this]
    simp [bpD]
theorem zip_split {α : Type} {bs : List α} {pre post : List (α × Nat)} {x : α × Nat} (h : bs.zipIdx = pre ++ x :: post) : x.2 = pre.length ∧ bs[pre.length]? = some x.1 ∧ pre.length < bs.length := by
  have h1 : bs.zipIdx[pre.length]? = some x := by rw [h]; simp
  rw [List.getElem?_zipIdx] at h1
  cases e : bs[pre.length]? with
  | none => rw [e] at h1; cases h1
  | some b =>
    rw [e] at h1
    have := Option.some.inj h1
    subst this
    exact ⟨by simp, by rw [show (b, 0 + pre.length).1 = b from rfl], (List.getElem?_eq_some_iff.mp e).1⟩
def badStep (k : Nat) (s : List Int × List Int) : Body → List Int × List Int
  | .no => (s.1 ++ [(k : Int)], s.2)
  | .wh _ _ _ => (if 20 < s.2.length + 1 then s.1 ++ [(k : Int)] else s.1, s.2 ++ [(k : Int)])
  | .fin => if 0 < s.2.length then (s.1, s.2.dropLast) else (s.1 ++ [(k : Int)], s.2)
  | _ => s
def scanB : Nat → List Int × List Int → List Body → List Int × List Int
  | _, s, [] => s
  | k, s, b :: r => scanB (k + 1) (badStep k s b) r
theorem scanB_snoc : ∀ (pre : List Body) (k : Nat) (s : List Int × List Int) (x : Body), scanB k s (pre ++ [x]) = badStep (k + pre.length) (scanB k s pre) x
  | [], k, s, x => rfl
  | b :: r, k, s, x => by
    rw [List.cons_append, scanB, scanB_snoc r (k + 1), scanB]
    simp only [List.length_cons]
    rw [show k + 1 + r.length = k + (r.length + 1) by omega]
def badOf (l : List Nat) : List Int := if (!decide (l = []) && !endsL [10] l) = true then (scanB 0 ([], []) (bodiesL l)).1 ++ [((bodiesL l).length : Int) - 1] else (scanB 0 ([], []) (bodiesL l)).1
def firstBad (l : List Nat) : PyData := minN (badOf l ++ (scanB 0 ([], []) (bodiesL l)).2)
abbrev tz (l : List Int) : List PyData := l.map PyData.int
theorem tz_snoc (l : List Int) (i : Int) : tz l ++ [.int i] = tz (l ++ [i]) := by simp [tz]
theorem tz_drop (l : List Int) : (tz l).dropLast = tz l.dropLast := (List.map_dropLast ..).symm
theorem ends_ofL (l : List Nat) (s : String) : Txt.endswith (ofL l) (Str.ofString s) = endsL (cs s) l := by
  rw [ends_eq, ofL_l]
  rfl
def fs_first_bad : FS := fun as Q _ => ∃ l : List Nat, as = [.v (codeD l)] ∧ okS (ofL l) = true ∧ shortL l ∧ Q (.d (firstBad l)) []
theorem l_first_bad : ∀ as Q X, fs_first_bad as Q X → as.length = 1 := by rintro as Q X ⟨_, rfl, _⟩; rfl
theorem tg_nothing_end : (Str.ofString "nothing" == Str.ofString "end") = false := by decide +kernel
theorem tg_nothing_section : (Str.ofString "nothing" == Str.ofString "section") = false := by decide +kernel
theorem tg_nothing_when : (Str.ofString "nothing" == Str.ofString "when") = false := by decide +kernel
theorem tg_nothing_statement : (Str.ofString "nothing" == Str.ofString "statement") = false := by decide +kernel
theorem tg_end_nothing : (Str.ofString "end" == Str.ofString "nothing") = false := by decide +kernel
theorem tg_end_section : (Str.ofString "end" == Str.ofString "section") = false := by decide +kernel
theorem tg_end_when : (Str.ofString "end" == Str.ofString "when") = false := by decide +kernel
theorem tg_end_statement : (Str.ofString "end" == Str.ofString "statement") = false := by decide +kernel
theorem tg_section_nothing : (Str.ofString "section" == Str.ofString "nothing") = false := by decide +kernel
theorem tg_section_end : (Str.ofString "section" == Str.ofString "end") = false := by decide +kernel
theorem tg_section_when : (Str.ofString "section" == Str.ofString "when") = false := by decide +kernel
theorem tg_section_statement : (Str.ofString "section" == Str.ofString "statement") = false := by decide +kernel
theorem tg_when_nothing : (Str.ofString "when" == Str.ofString "nothing") = false := by decide +kernel
theorem tg_when_end : (Str.ofString "when" == Str.ofString "end") = false := by decide +kernel
theorem tg_when_section : (Str.ofString "when" == Str.ofString "section") = false := by decide +kernel
theorem tg_when_statement : (Str.ofString "when" == Str.ofString "statement") = false := by decide +kernel
theorem tg_statement_nothing : (Str.ofString "statement" == Str.ofString "nothing") = false := by decide +kernel
theorem tg_statement_end : (Str.ofString "statement" == Str.ofString "end") = false := by decide +kernel
theorem tg_statement_section : (Str.ofString "statement" == Str.ofString "section") = false := by decide +kernel
theorem tg_statement_when : (Str.ofString "statement" == Str.ofString "when") = false := by decide +kernel
theorem bad_room (k : Nat) (s : List Int × List Int) (b : Body) : (badStep k s b).1.length + (badStep k s b).2.length ≤ s.1.length + s.2.length + 2 := by
  cases b with
  | no =>
    show (s.1 ++ [(k : Int)]).length + s.2.length ≤ _
    simp only [List.length_append, List.length_singleton]
    omega
  | wh f vs p =>
    show (if 20 < s.2.length + 1 then s.1 ++ [(k : Int)] else s.1).length + (s.2 ++ [(k : Int)]).length ≤ _
    split <;> simp only [List.length_append, List.length_singleton] <;> omega
  | fin =>
    show (if 0 < s.2.length then (s.1, s.2.dropLast) else (s.1 ++ [(k : Int)], s.2)).1.length + (if 0 < s.2.length then (s.1, s.2.dropLast) else (s.1 ++ [(k : Int)], s.2)).2.length ≤ _
    split <;> simp only [List.length_append, List.length_singleton, List.length_dropLast] <;> omega
  | nothing => exact Nat.le_add_right _ _
  | sec _ => exact Nat.le_add_right _ _
  | st _ _ _ => exact Nat.le_add_right _ _
theorem m_first_bad : ∀ as Q X, fs_first_bad as Q X → w_first_bad (as ++ List.replicate 5 Sl.no) (endP 1 Q X) := by
  rintro as Q X ⟨l, rfl, ok, sh, h⟩
  have hl := okS_len2 ok
  have hb : (bodiesL l).length ≤ 1000001 := by
    unfold bodiesL
    rw [List.length_map]
    have := linesL_len l
    omega
  dsimp! only [w_first_bad, w_first_bad_7, w_first_bad_6, w_first_bad_5, fs_bodies_of]
  refine ⟨by decide, by decide, l, rfl, ok, sh, ?_⟩
  refine forI_E (bodiesL l).zipIdx bpD (fun pre Γ => ∃ e1 e2 : Sl, Γ = [.v (codeD l), .own (tz (scanB 0 ([], []) (pre.map (·.1))).1), .own (tz (scanB 0 ([], []) (pre.map (·.1))).2), .v (.list ((bodiesL l).map Body.d)), e1, e2] ∧ nc e1 ∧ nc e2 ∧
    (scanB 0 ([], []) (pre.map (·.1))).1.length + (scanB 0 ([], []) (pre.map (·.1))).2.length ≤ 2 * pre.length) (enum_bodies _) ⟨_, _, rfl, trivial, trivial, by simp [scanB]⟩ ?_ ?_
  · rintro pre x post _ q ⟨e1, e2, rfl, n1, n2, hlen⟩ N hN
    obtain ⟨hx, hxb, hlt⟩ := zip_split q
    have es : scanB 0 ([], []) ((pre ++ [x]).map (·.1)) = badStep pre.length (scanB 0 ([], []) (pre.map (·.1))) x.1 := by
      rw [List.map_append, List.map_cons, List.map_nil, scanB_snoc, Nat.zero_add, List.length_map]
    have room := bad_room pre.length (scanB 0 ([], []) (pre.map (·.1))) x.1
    have step : ∀ (s' : List Int × List Int) (e1' e2' : Sl), s' = badStep pre.length (scanB 0 ([], []) (pre.map (·.1))) x.1 → nc e1' → nc e2' → N [.v (codeD l), .own (tz s'.1), .own (tz s'.2), .v (.list ((bodiesL l).map Body.d)), e1', e2'] := fun s' e1' e2' hs c1 c2 =>
      hN _ ⟨e1', e2', by rw [es, hs], c1, c2, by rw [es, List.length_append, List.length_singleton]; omega⟩
    revert step room hlen
    generalize scanB 0 ([], []) (pre.map (·.1)) = s
    intro hlen room step
    have big : ∀ {n : Nat}, n ≤ 4000010 → n < sizeLine := fun h => Nat.lt_of_le_of_lt h (by decide)
    have h1 : s.1.length < sizeLine := big (by omega)
    have h2 : s.2.length < sizeLine := big (by omega)
    have hz1 : (tz s.1).length < sizeLine := by rw [List.length_map]; exact h1
    have hz2 : (tz s.2).length < sizeLine := by rw [List.length_map]; exact h2
    obtain ⟨b, k⟩ := x
    simp only at hx step
    subst hx
    cases b with
    | no =>
      dsimp! only [bpD, Body.d, w_first_bad_2, n1, n2]
      refine ⟨⟨_, rfl⟩, hz1, ?_⟩
      rw [tz_snoc]
      exact step _ _ _ rfl (by exact trivial) (by exact trivial)
    | nothing =>
      dsimp! only [bpD, Body.d, w_first_bad_2, n1, n2, atI_c0, tg_nothing_when, tg_nothing_end, tg_end_when, tg_section_when, tg_section_end, tg_when_end, tg_statement_when, tg_statement_end, beq_self_eq_true]
      exact step _ _ _ rfl (by exact trivial) (by exact trivial)
    | sec _ =>
      dsimp! only [bpD, Body.d, w_first_bad_2, n1, n2, atI_c0, tg_nothing_when, tg_nothing_end, tg_end_when, tg_section_when, tg_section_end, tg_when_end, tg_statement_when, tg_statement_end, beq_self_eq_true]
      exact step _ _ _ rfl (by exact trivial) (by exact trivial)
    | st _ _ _ =>
      dsimp! only [bpD, Body.d, w_first_bad_2, n1, n2, atI_c0, tg_nothing_when, tg_nothing_end, tg_end_when, tg_section_when, tg_section_end, tg_when_end, tg_statement_when, tg_statement_end, beq_self_eq_true]
      exact step _ _ _ rfl (by exact trivial) (by exact trivial)
    | wh f vs p =>
      dsimp! only [bpD, Body.d, w_first_bad_2, w_first_bad_1, n1, n2, atI_c0, tg_nothing_when, tg_nothing_end, tg_end_when, tg_section_when, tg_section_end, tg_when_end, tg_statement_when, tg_statement_end, beq_self_eq_true]
      refine ⟨⟨_, rfl⟩, hz2, ?_⟩
      rw [tz_snoc]
      have eg : decide ((20 : Int) < ((tz (s.2 ++ [((pre.length : Nat) : Int)])).length : Int)) = decide (20 < s.2.length + 1) := by
        rw [List.length_map, List.length_append, List.length_singleton, decide_eq_decide]; omega
      rw [eg]
      by_cases c : 20 < s.2.length + 1
      · rw [decide_eq_true c]
        dsimp! only [id_eq]
        refine ⟨⟨_, rfl⟩, hz1, ?_⟩
        rw [tz_snoc]
        exact step (s.1 ++ [((pre.length : Nat) : Int)], s.2 ++ [((pre.length : Nat) : Int)]) _ _ (by simp only [badStep]; rw [if_pos c]) (by exact trivial) (by exact trivial)
      · rw [decide_eq_false c]
        dsimp! only [id_eq]
        exact step (s.1, s.2 ++ [((pre.length : Nat) : Int)]) _ _ (by simp only [badStep]; rw [if_neg c]) (by exact trivial) (by exact trivial)
    | fin =>
      dsimp! only [bpD, Body.d, w_first_bad_2, w_first_bad_1, n1, n2, atI_c0, tg_nothing_when, tg_nothing_end, tg_end_when, tg_section_when, tg_section_end, tg_when_end, tg_statement_when, tg_statement_end, beq_self_eq_true]
      have eg : decide ((0 : Int) < ((tz s.2).length : Int)) = decide (0 < s.2.length) := by
        rw [List.length_map, decide_eq_decide]; omega
      rw [eg]
      by_cases c : 0 < s.2.length
      · rw [decide_eq_true c]
        dsimp! only [id_eq]
        refine ⟨by intro z; rw [List.map_eq_nil_iff] at z; rw [z] at c; simp at c, ?_⟩
        rw [tz_drop]
        exact step (s.1, s.2.dropLast) _ _ (by simp only [badStep]; rw [if_pos c]) (by exact trivial) (by exact trivial)
      · rw [decide_eq_false c]
        dsimp! only [id_eq]
        refine ⟨⟨_, rfl⟩, hz1, ?_⟩
        rw [tz_snoc]
        exact step (s.1 ++ [((pre.length : Nat) : Int)], s.2) _ _ (by simp only [badStep]; rw [if_neg c]) (by exact trivial) (by exact trivial)
  · rintro _ ⟨e1, e2, rfl, n1, n2, hlen⟩
    have ebs : (bodiesL l).zipIdx.map (·.1) = bodiesL l := by simp
    rw [ebs, List.length_zipIdx] at hlen
    rw [ebs]
    unfold firstBad badOf at h
    revert h hlen
    generalize scanB 0 ([], []) (bodiesL l) = s
    intro h hlen
    have big : ∀ {n : Nat}, n ≤ 4000010 → n < sizeLine := fun h => Nat.lt_of_le_of_lt h (by decide)
    have hz1 : (tz s.1).length < sizeLine := by rw [List.length_map]; exact big (by omega)
    dsimp! only [w_first_bad_4, ends_ofL, nl_cs, ofL_beq, cs_empty]
    have last : ∀ bad : List Int, bad.length ≤ 3000003 → Q (.d (minN (bad ++ s.2))) [] → w_first_bad_3 [.v (codeD l), .own (tz bad), .own (tz s.2), .v (.list ((bodiesL l).map Body.d)), e1, e2] (endP 1 Q X) := by
      intro bad hb q
      dsimp! only [w_first_bad_3]
      have hz : (tz bad).length + (tz s.2).length ≤ sizeLine := by
        rw [List.length_map, List.length_map]
        exact Nat.le_trans (show bad.length + s.2.length ≤ 6000006 by omega) (by decide)
      exact ⟨hz, bad ++ s.2, by rw [← List.map_append]; exact intsD_map _, q⟩
    cases c1 : decide (l = []) with
    | true =>
      dsimp! only [c1] at h ⊢
      exact last _ (by omega) h
    | false =>
      dsimp! only [c1] at h ⊢
      cases c2 : endsL [10] l with
      | true =>
        dsimp! only [c2] at h ⊢
        exact last _ (by omega) h
      | false =>
        dsimp! only [c2] at h ⊢
        refine ⟨⟨_, rfl⟩, hz1, ?_⟩
        rw [tz_snoc]
        refine last _ (by simp; omega) ?_
        rw [List.length_map]
        exact h

def w_statements_in_1 : WS := (wIfS (wB (wBin fEq (wBin fIx (wBor 5) (wC (PyData.int 0))) (wC (PyData.str "section")))) (wSet (wBin fIx (wBor 5) (wC (PyData.int 1))) 2) (wIfS (wB (wBin fEq (wBin fIx (wBor 5) (wC (PyData.int 0))) (wC (PyData.str "when")))) (wApp 3 (wBin fIx (wBor 5) (wC (PyData.int 1)))) (wIfS (wB (wBin fEq (wBin fIx (wBor 5) (wC (PyData.int 0))) (wC (PyData.str "end")))) (wPop 3) (wIfS (wB (wBin fEq (wBin fIx (wBor 5) (wC (PyData.int 0))) (wC (PyData.str "statement")))) (wApp 1 (wTup (wCons (wVar 4) (wCons (wCall (fs_name_of) (wCons (wVar 2) (wCons (wBin fIx (wBor 5) (wC (PyData.int 1))) wNil))) (wCons (wBin fIx (wBor 5) (wC (PyData.int 2))) (wCons (wBin fIx (wBor 5) (wC (PyData.int 3))) (wCons (wPrim fToTup (wCons (wBor 3) wNil)) wNil))))))) wNext))))
def w_statements_in_2 : WS := (wRet (wTake 1))
def w_statements_in_3 : WS := (wSeq (wFor (wEnum (wCons (wCall (fs_bodies_of) (wCons (wVar 0) wNil)) wNil)) (.t [4, 5]) w_statements_in_1) w_statements_in_2)
def w_statements_in_4 : WS := (wSeq (wSet (wLst wNil) 3) w_statements_in_3)
def w_statements_in_5 : WS := (wSeq (wSet (wC (PyData.str "")) 2) w_statements_in_4)
def w_statements_in : WS := (wSeq (wSet (wLst wNil) 1) w_statements_in_5)

/-- a statement of a text: line, name, word, items, conditions -/
structure Stm where
  at_ : Nat
  name : Str
  word : Str
  items : List (List Nat)
  whens : List PyData
def Stm.d (s : Stm) : PyData := .tuple [.int (s.at_ : Nat), .str s.name, .str s.word, .tuple (s.items.map codeD), .tuple s.whens]
structure InS where
  found : List Stm
  sec : List Nat
  whens : List PyData
def inStep (k : Nat) (s : InS) : Body → InS
  | .sec t => { s with sec := t }
  | .wh f vs p => { s with whens := s.whens ++ [condD f vs p] }
  | .fin => { s with whens := s.whens.dropLast }
  | .st key w items => { s with found := s.found ++ [⟨k, nameF (ofL s.sec) (ofL key), w, items, s.whens⟩] }
  | _ => s
def scanI : Nat → InS → List Body → InS
  | _, s, [] => s
  | k, s, b :: r => scanI (k + 1) (inStep k s b) r
theorem scanI_snoc : ∀ (pre : List Body) (k : Nat) (s : InS) (x : Body), scanI k s (pre ++ [x]) = inStep (k + pre.length) (scanI k s pre) x
  | [], k, s, x => rfl
  | b :: r, k, s, x => by
    rw [List.cons_append, scanI, scanI_snoc r (k + 1), scanI]
    simp only [List.length_cons]
    rw [show k + 1 + r.length = k + (r.length + 1) by omega]
def in0 : InS := ⟨[], [], []⟩
def stmL (l : List Nat) : List Stm := (scanI 0 in0 (bodiesL l)).found
/-- every line well made, every end with its when -/
def wellB : Nat → List Body → Bool
  | _, [] => true
  | _, .no :: _ => false
  | n, .wh _ _ _ :: r => wellB (n + 1) r
  | 0, .fin :: _ => false
  | n + 1, .fin :: r => wellB n r
  | n, _ :: r => wellB n r
/-- names short enough -/
def shortB : Body → Bool
  | .sec t => decide (t.length ≤ 3000)
  | .st k _ _ => decide (k.length ≤ 3000)
  | _ => true
def fs_statements_in : FS := fun as Q _ => ∃ l : List Nat, as = [.v (codeD l)] ∧ okS (ofL l) = true ∧ shortL l ∧ (∀ b ∈ bodiesL l, b ≠ .no) ∧ wellB 0 (bodiesL l) = true ∧ (∀ b ∈ bodiesL l, shortB b = true) ∧ Q (.o ((stmL l).map Stm.d)) []
theorem l_statements_in : ∀ as Q X, fs_statements_in as Q X → as.length = 1 := by rintro as Q X ⟨_, rfl, _⟩; rfl
theorem well_snoc : ∀ (pre : List Body) (n : Nat) (x : Body) (post : List Body) (s : InS) (k : Nat), n = s.whens.length → wellB n (pre ++ x :: post) = true → wellB (scanI k s pre).whens.length (x :: post) = true
  | [], n, x, post, s, k, hn, h => by
    subst hn
    exact h
  | b :: r, n, x, post, s, k, hn, h => by
    subst hn
    rw [List.cons_append] at h
    rw [scanI]
    cases b with
    | no => simp [wellB] at h
    | wh f vs p => exact well_snoc r (s.whens.length + 1) x post _ _ (by simp [inStep]) (by simpa [wellB] using h)
    | fin =>
      cases e : s.whens.length with
      | zero => rw [e] at h; simp [wellB] at h
      | succ m =>
        rw [e] at h
        exact well_snoc r m x post _ _ (by simp [inStep, e]) (by simpa [wellB] using h)
    | nothing => exact well_snoc r s.whens.length x post _ _ rfl (by simpa [wellB] using h)
    | sec t => exact well_snoc r s.whens.length x post _ _ rfl (by simpa [wellB] using h)
    | st a b' c => exact well_snoc r s.whens.length x post _ _ rfl (by simpa [wellB] using h)
theorem scanI_sec : ∀ (pre : List Body) (s : InS) (k : Nat), s.sec.length ≤ 3000 → (∀ b ∈ pre, shortB b = true) → (scanI k s pre).sec.length ≤ 3000
  | [], s, k, hs, _ => hs
  | b :: r, s, k, hs, h => by
    rw [scanI]
    refine scanI_sec r _ _ ?_ fun b hb => h b (List.mem_cons_of_mem _ hb)
    have := h b (List.mem_cons_self ..)
    cases b with
    | sec t => simpa [inStep, shortB] using this
    | _ => exact hs
theorem scanI_len : ∀ (pre : List Body) (s : InS) (k : Nat), (scanI k s pre).found.length ≤ s.found.length + pre.length ∧ (scanI k s pre).whens.length ≤ s.whens.length + pre.length
  | [], s, k => ⟨Nat.le_refl _, Nat.le_refl _⟩
  | b :: r, s, k => by
    rw [scanI]
    have := scanI_len r (inStep k s b) (k + 1)
    simp only [List.length_cons]
    cases b <;> simp [inStep] at this ⊢ <;> omega
theorem stm_snoc (l : List Stm) (x : Stm) : l.map Stm.d ++ [x.d] = (l ++ [x]).map Stm.d := by simp
theorem m_statements_in : ∀ as Q X, fs_statements_in as Q X → w_statements_in (as ++ List.replicate 5 Sl.no) (endP 1 Q X) := by
  rintro as Q X ⟨l, rfl, ok, sh, hno, hw, hsb, h⟩
  have hl := okS_len2 ok
  have hb : (bodiesL l).length ≤ 1000001 := by
    unfold bodiesL
    rw [List.length_map]
    have := linesL_len l
    omega
  dsimp! only [w_statements_in, w_statements_in_5, w_statements_in_4, w_statements_in_3, fs_bodies_of]
  refine ⟨by decide, by decide, l, rfl, ok, sh, ?_⟩
  refine forI_E (bodiesL l).zipIdx bpD (fun pre Γ => ∃ e1 e2 : Sl, Γ = [.v (codeD l), .own ((scanI 0 in0 (pre.map (·.1))).found.map Stm.d), .v (codeD (scanI 0 in0 (pre.map (·.1))).sec), .own (scanI 0 in0 (pre.map (·.1))).whens, e1, e2] ∧ nc e1 ∧ nc e2) (enum_bodies _) ⟨_, _, rfl, trivial, trivial⟩ ?_ ?_
  · rintro pre x post _ q ⟨e1, e2, rfl, n1, n2⟩ N hN
    obtain ⟨hx, hxb, hlt⟩ := zip_split q
    have es : scanI 0 in0 ((pre ++ [x]).map (·.1)) = inStep pre.length (scanI 0 in0 (pre.map (·.1))) x.1 := by
      rw [List.map_append, List.map_cons, List.map_nil, scanI_snoc, Nat.zero_add, List.length_map]
    have eb : bodiesL l = pre.map (·.1) ++ x.1 :: post.map (·.1) := by
      have := congrArg (List.map (·.1)) q
      simpa using this
    have hpl : (pre.map (·.1)).length ≤ 1000001 := by rw [List.length_map]; omega
    have hsec := scanI_sec (pre.map (·.1)) in0 0 (by simp [in0]) fun b hb' => hsb b (by rw [eb]; exact List.mem_append_left _ hb')
    have hwel := well_snoc (pre.map (·.1)) 0 x.1 (post.map (·.1)) in0 0 rfl (by rw [← eb]; exact hw)
    obtain ⟨hf1, hf2⟩ := scanI_len (pre.map (·.1)) in0 0
    have hxs := hsb x.1 (List.mem_of_getElem? hxb)
    have hxn := hno x.1 (List.mem_of_getElem? hxb)
    have step : ∀ (s' : InS) (e1' e2' : Sl), s' = inStep pre.length (scanI 0 in0 (pre.map (·.1))) x.1 → nc e1' → nc e2' → N [.v (codeD l), .own (s'.found.map Stm.d), .v (codeD s'.sec), .own s'.whens, e1', e2'] := fun s' e1' e2' hs c1 c2 =>
      hN _ ⟨e1', e2', by rw [es, hs], c1, c2⟩
    have i0 : in0.found.length = 0 := rfl
    have i1 : in0.whens.length = 0 := rfl
    rw [i0] at hf1
    rw [i1] at hf2
    revert hsec hwel hf1 hf2 step
    generalize scanI 0 in0 (pre.map (·.1)) = s
    intro hsec hwel hf1 hf2 step
    have big : ∀ {n : Nat}, n ≤ 4000010 → n < sizeLine := fun h => Nat.lt_of_le_of_lt h (by decide)
    have hz1 : (s.found.map Stm.d).length < sizeLine := by rw [List.length_map]; exact big (by omega)
    have hz2 : s.whens.length < sizeLine := big (by omega)
    obtain ⟨b, k⟩ := x
    simp only at hx step hwel hxs hxn
    subst hx
    cases b with
    | no => exact absurd rfl hxn
    | nothing =>
      dsimp! only [bpD, Body.d, w_statements_in_1, n1, n2, atI_c0, tg_nothing_end, tg_nothing_section, tg_nothing_when, tg_nothing_statement, tg_end_nothing, tg_end_section, tg_end_when, tg_end_statement, tg_section_nothing, tg_section_end, tg_section_when, tg_section_statement, tg_when_nothing, tg_when_end, tg_when_section, tg_when_statement, tg_statement_nothing, tg_statement_end, tg_statement_section, tg_statement_when, beq_self_eq_true]
      exact step _ _ _ rfl (by exact trivial) (by exact trivial)
    | sec t =>
      dsimp! only [bpD, Body.d, w_statements_in_1, n1, n2, atI_c0, atI_c1, tg_nothing_end, tg_nothing_section, tg_nothing_when, tg_nothing_statement, tg_end_nothing, tg_end_section, tg_end_when, tg_end_statement, tg_section_nothing, tg_section_end, tg_section_when, tg_section_statement, tg_when_nothing, tg_when_end, tg_when_section, tg_when_statement, tg_statement_nothing, tg_statement_end, tg_statement_section, tg_statement_when, beq_self_eq_true]
      exact step { s with sec := t } _ _ rfl (by exact trivial) (by exact trivial)
    | wh f vs p =>
      dsimp! only [bpD, Body.d, w_statements_in_1, n1, n2, atI_c0, atI_c1, tg_nothing_end, tg_nothing_section, tg_nothing_when, tg_nothing_statement, tg_end_nothing, tg_end_section, tg_end_when, tg_end_statement, tg_section_nothing, tg_section_end, tg_section_when, tg_section_statement, tg_when_nothing, tg_when_end, tg_when_section, tg_when_statement, tg_statement_nothing, tg_statement_end, tg_statement_section, tg_statement_when, beq_self_eq_true]
      refine ⟨⟨_, rfl⟩, hz2, ?_⟩
      exact step { s with whens := s.whens ++ [condD f vs p] } _ _ rfl (by exact trivial) (by exact trivial)
    | fin =>
      have hne : s.whens ≠ [] := by
        intro z
        rw [z] at hwel
        simp [wellB] at hwel
      dsimp! only [bpD, Body.d, w_statements_in_1, n1, n2, atI_c0, atI_c1, tg_nothing_end, tg_nothing_section, tg_nothing_when, tg_nothing_statement, tg_end_nothing, tg_end_section, tg_end_when, tg_end_statement, tg_section_nothing, tg_section_end, tg_section_when, tg_section_statement, tg_when_nothing, tg_when_end, tg_when_section, tg_when_statement, tg_statement_nothing, tg_statement_end, tg_statement_section, tg_statement_when, beq_self_eq_true]
      refine ⟨hne, ?_⟩
      exact step { s with whens := s.whens.dropLast } _ _ rfl (by exact trivial) (by exact trivial)
    | st key w items =>
      have hk : key.length ≤ 3000 := by simpa [shortB] using hxs
      dsimp! only [bpD, Body.d, w_statements_in_1, fs_name_of, n1, n2, atI_c0, atI_c1, atI_c2, atI_c3, tg_nothing_end, tg_nothing_section, tg_nothing_when, tg_nothing_statement, tg_end_nothing, tg_end_section, tg_end_when, tg_end_statement, tg_section_nothing, tg_section_end, tg_section_when, tg_section_statement, tg_when_nothing, tg_when_end, tg_when_section, tg_when_statement, tg_statement_nothing, tg_statement_end, tg_statement_section, tg_statement_when, beq_self_eq_true]
      refine ⟨⟨_, rfl⟩, _, _, ⟨rfl, rfl⟩, by rw [ofL_len, ofL_len]; omega, ?_⟩
      have := step { s with found := s.found ++ [⟨pre.length, nameF (ofL s.sec) (ofL key), w, items, s.whens⟩] } (.v (.int (pre.length : Nat))) (.v (Body.st key w items).d) rfl (by exact trivial) (by exact trivial)
      rw [← stm_snoc] at this
      exact ⟨by decide, hz1, this⟩
  · rintro _ ⟨e1, e2, rfl, n1, n2⟩
    have ebs : (bodiesL l).zipIdx.map (·.1) = bodiesL l := by simp
    rw [ebs]
    dsimp! only [w_statements_in_2]
    exact h

def w_check_stack_1 : WS := (wIfS (wB (wBin fNotN (wBor 4) (wC PyData.none))) (wRaise "BadLine" ["layer", "at"] (wCons (wVar 3) (wCons (wVar 4) wNil))) wNext)
def w_check_stack_2 : WS := (wSeq (wSet (wCall (fs_first_bad) (wCons (wVar 2) wNil)) 4) w_check_stack_1)
def w_check_stack_3 : WS := (wFor (wEnum (wCons (wVar 0) wNil)) (.t [3, 2]) w_check_stack_2)
def w_check_stack_4 : WS := (wSeq (wIfS (wB (wBin fGt (wPrim fSumI (wCons (wLc (wIt (wVar 0)) (.n 2) wYes (wPrim fLen (wCons (wCall (fs_split_lines) (wCons (wVar 2) wNil)) wNil)) [2]) wNil)) (wC (PyData.int 2000)))) (wRaise "TooMany" ["word"] (wCons (wC (PyData.str "lines")) wNil)) wNext) w_check_stack_3)
def w_check_stack_5 : WS := (wSeq (wIfS (wB (wBin fGt (wPrim fLen (wCons (wBor 0) wNil)) (wC (PyData.int 40)))) (wRaise "TooMany" ["word"] (wCons (wC (PyData.str "layers")) wNil)) wNext) w_check_stack_4)
def w_check_stack : WS := (wSeq (wIfS (wOrT (wNotT (wB (wCall (fs_is_sequence) (wCons (wVar 0) wNil)))) (wNotT (wB (wPrim fAll (wCons (wLc (wIt (wVar 0)) (.n 2) wYes (wIsi (wBor 2) "str") [2]) wNil))))) (wRaise "BadValue" ["at"] (wCons (wVar 1) wNil)) wNext) w_check_stack_5)

def isStrT : PyData → Bool
  | .str _ => true
  | _ => false
def xMany (s : String) : XN := ⟨"TooMany", [("word", .str (Str.ofString s))]⟩
def xLine (k : Nat) (d : PyData) : XN := ⟨"BadLine", [("at", d), ("layer", .int (k : Nat))]⟩
def badLayer : Nat → List (List Nat) → Option XN
  | _, [] => none
  | k, l :: r => match firstBad l with
    | .none => badLayer (k + 1) r
    | d => some (xLine k d)
def stackX (ys : List (List Nat)) : Option XN :=
  if 40 < ys.length then some (xMany "layers") else if 2000 < (ys.map fun l => (linesL l).length).sum then some (xMany "lines") else badLayer 0 ys
theorem first_cases (l : List Nat) : firstBad l = .none ∨ ∃ i, firstBad l = .int i := by
  unfold firstBad
  cases badOf l ++ (scanB 0 ([], []) (bodiesL l)).2 with
  | nil => exact .inl rfl
  | cons x r => exact .inr ⟨_, rfl⟩
theorem badLayer_hit : ∀ (pre : List (List Nat)) (l : List Nat) (post : List (List Nat)) (i : Int) (k : Nat), (∀ p ∈ pre, firstBad p = .none) → firstBad l = .int i → badLayer k (pre ++ l :: post) = some (xLine (k + pre.length) (.int i))
  | [], l, post, i, k, _, h => by
    show badLayer k (l :: post) = _
    rw [badLayer, h]
    rfl
  | p :: pre, l, post, i, k, hp, h => by
    rw [List.cons_append, badLayer, hp p (List.mem_cons_self ..)]
    show badLayer (k + 1) _ = _
    rw [badLayer_hit pre l post i (k + 1) (fun q hq => hp q (List.mem_cons_of_mem _ hq)) h, List.length_cons, show k + 1 + pre.length = k + (pre.length + 1) by omega]
theorem badLayer_none : ∀ (ys : List (List Nat)) (k : Nat), (∀ p ∈ ys, firstBad p = .none) → badLayer k ys = none
  | [], _, _ => rfl
  | p :: r, k, h => by
    rw [badLayer, h p (List.mem_cons_self ..)]
    exact badLayer_none r (k + 1) fun q hq => h q (List.mem_cons_of_mem _ hq)
theorem enum_codes (ys : List (List Nat)) : enumL (ys.map codeD) = ys.zipIdx.map fun p => .tuple [.int (p.2 : Nat), codeD p.1] := by
  refine List.ext_getElem? fun i => ?_
  rw [List.getElem?_map, List.getElem?_zipIdx]
  cases h : ys[i]? with
  | none =>
    rw [List.getElem?_eq_none_iff] at h
    have : (enumL (ys.map codeD))[i]? = none := by rw [List.getElem?_eq_none_iff, enumL_len, List.length_map]; exact h
    rw [this]
    rfl
  | some b =>
    have := enumL_get (l := ys.map codeD) (i := i) (d := codeD b) (by rw [List.getElem?_map, h]; rfl)
    rw [this]
    simp
theorem strs_codes : ∀ {l : List PyData}, l.all isStrT = true → ∃ ys : List (List Nat), l = ys.map codeD
  | [], _ => ⟨[], rfl⟩
  | d :: r, h => by
    rw [List.all_cons, Bool.and_eq_true] at h
    obtain ⟨ys, e⟩ := strs_codes h.2
    cases d with
    | str s => exact ⟨s.cps.toList :: ys, by rw [e, List.map_cons]; show _ = PyData.str (ofL s.cps.toList) :: _; rw [ofL_of]⟩
    | _ => exact absurd h.1 (by simp [isStrT])
theorem isA_isStrT (d : PyData) : isA "str" d = isStrT d := by cases d <;> rfl
theorem ints_lines (ys : List (List Nat)) : intsD (ys.map fun l => PyData.int ((linesL l).length : Nat)) = some (ys.map fun l => ((linesL l).length : Int)) := by
  have := intsD_map (ys.map fun l => ((linesL l).length : Int))
  rw [List.map_map] at this
  exact this
theorem sum_cast : ∀ ns : List Nat, (ns.map fun n => ((n : Nat) : Int)).sum = ((ns.sum : Nat) : Int)
  | [] => rfl
  | n :: ns => by
    rw [List.map_cons, List.sum_cons, sum_cast ns, List.sum_cons]
    omega
def fs_check_stack : FS := fun as Q X => ∃ (d : PyData) (k : Int), as = [.v d, .v (.int k)] ∧ okD d = true ∧ ((isSeq d && (seqL d).all isStrT) = false → X (xBad k)) ∧
  (∀ ys : List (List Nat), isSeq d = true → seqL d = ys.map codeD → (40 < ys.length ∨ ∀ l ∈ ys, shortL l) ∧ (match stackX ys with | some x => X x | none => Q (.d .none) []))
theorem l_check_stack : ∀ as Q X, fs_check_stack as Q X → as.length = 2 := by rintro as Q X ⟨_, _, rfl, _⟩; rfl
theorem sum_lines (ys : List (List Nat)) : (ys.map fun l => ((linesL l).length : Int)).sum = (((ys.map fun l => (linesL l).length).sum : Nat) : Int) := by
  rw [← sum_cast, List.map_map]
  rfl
theorem stack5 {Q : R → List (List PyData) → Prop} {X : XN → Prop} {d : PyData} {ys : List (List Nat)} {k : Int} (hi : items d = some (ys.map codeD)) (hs : seqD d = some (ys.map codeD)) (hl : ∀ Q, fLen [d] Q = Q (.d (.int ((ys.map codeD).length : Int))))
    (ok : ∀ l ∈ ys, okS (ofL l) = true) (hz : ys.length < sizeLine) (sh : 40 < ys.length ∨ ∀ l ∈ ys, shortL l) (h : match stackX ys with | some x => X x | none => Q (.d .none) []) :
    w_check_stack_5 [.v d, .v (.int k), .no, .no, .no] (endP 2 Q X) := by
  have hz' : (ys.map codeD).length < sizeLine := by rw [List.length_map]; exact hz
  dsimp! only [w_check_stack_5]
  rw [hl]
  dsimp! only [id_eq]
  have e40 : decide ((40 : Int) < ((ys.map codeD).length : Int)) = decide (40 < ys.length) := by rw [List.length_map, decide_eq_decide]; omega
  rw [e40]
  unfold stackX at h
  by_cases c : 40 < ys.length
  · rw [if_pos c] at h
    rw [decide_eq_true c]
    dsimp! only [wRaise]
    exact h
  rw [if_neg c] at h
  rw [decide_eq_false c]
  have shl : ∀ l ∈ ys, shortL l := sh.resolve_left c
  dsimp! only [w_check_stack_4, fs_split_lines, hi]
  refine ⟨hz', lcI_mapE ys codeD (fun l => .int ((linesL l).length : Nat)) rfl (fun l hl' Kn kn => ?_) ?_⟩
  · dsimp! only [id_eq]
    refine ⟨l, rfl, ok l hl', ?_⟩
    dsimp! only [id_eq]
    rw [List.length_map]
    exact kn
  · refine ⟨_, ints_lines ys, ?_⟩
    rw [sum_lines]
    have e2 : decide ((2000 : Int) < (((ys.map fun l => (linesL l).length).sum : Nat) : Int)) = decide (2000 < (ys.map fun l => (linesL l).length).sum) := by rw [decide_eq_decide]; omega
    rw [e2]
    by_cases c2 : 2000 < (ys.map fun l => (linesL l).length).sum
    · rw [if_pos c2] at h
      rw [decide_eq_true c2]
      dsimp! only [wRaise]
      exact h
    rw [if_neg c2] at h
    rw [decide_eq_false c2]
    dsimp! only [w_check_stack_3]
    refine ⟨_, hs, ?_⟩
    refine forI_E ys.zipIdx (fun p => .tuple [.int (p.2 : Nat), codeD p.1]) (fun pre Γ => ∃ e2 e3 e4 : Sl, Γ = [.v d, .v (.int k), e2, e3, e4] ∧ nc e2 ∧ nc e3 ∧ nc e4 ∧ ∀ p ∈ pre.map (·.1), firstBad p = .none) (enum_codes ys) ⟨_, _, _, rfl, trivial, trivial, trivial, by simp⟩ ?_ ?_
    · rintro pre ⟨l, j⟩ post _ q ⟨e2, e3, e4, rfl, n2, n3, n4, hp⟩ N hN
      obtain ⟨hx, hxb, hlt⟩ := zip_split q
      have eb : ys = pre.map (·.1) ++ l :: post.map (·.1) := by
        have := congrArg (List.map (·.1)) q
        simpa using this
      have hm : l ∈ ys := List.mem_of_getElem? hxb
      simp only at hx
      subst hx
      dsimp! only [w_check_stack_2, w_check_stack_1, fs_first_bad, n2, n3, n4]
      refine ⟨l, rfl, ok l hm, shl l hm, ?_⟩
      rcases first_cases l with hf | ⟨i, hf⟩
      · dsimp! only [hf]
        refine hN _ ⟨_, _, _, rfl, by exact trivial, by exact trivial, by exact trivial, fun p hp' => ?_⟩
        rw [List.map_append] at hp'
        rcases List.mem_append.mp hp' with z | z
        · exact hp p z
        · simp at z
          rw [z]
          exact hf
      · have := badLayer_hit (pre.map (·.1)) l (post.map (·.1)) i 0 hp hf
        rw [← eb, Nat.zero_add, List.length_map] at this
        rw [this] at h
        dsimp! only [hf, wRaise]
        exact h
    · rintro _ ⟨e2, e3, e4, rfl, n2, n3, n4, hp⟩
      have e : ys.zipIdx.map (·.1) = ys := by simp
      rw [e] at hp
      rw [badLayer_none ys 0 hp] at h
      exact h
theorem m_check_stack : ∀ as Q X, fs_check_stack as Q X → w_check_stack (as ++ List.replicate 3 Sl.no) (endP 2 Q X) := by
  rintro as Q X ⟨d, at_, rfl, ok, hx, hq⟩
  have all_ : ∀ l : List PyData, (l.map fun x => isStrT x).all id = l.all isStrT := fun l => by rw [List.all_map]; rfl
  cases d with
  | list l =>
    dsimp! only [w_check_stack, fs_is_sequence, isSeq]
    refine ⟨_, rfl, ?_⟩
    dsimp! only [isSeq]
    refine ⟨lz (len_lst ok), lcI_map (fun x => .bool (isStrT x)) (fun x hx Kn kn => ?_) ?_⟩
    · dsimp! only [isA_isStrT]
      exact kn
    · refine ⟨_, bools_map _ _, ?_⟩
      rw [all_]
      cases c : l.all isStrT with
      | false =>
        dsimp! only [wRaise]
        exact hx (by simp [isSeq, seqL, c])
      | true =>
        obtain ⟨ys, rfl⟩ := strs_codes c
        obtain ⟨h1, h2⟩ := hq ys rfl rfl
        dsimp! only [id_eq]
        exact stack5 rfl rfl (fun _ => rfl) (fun p hp => by have := of_lst ok (codeD p) (List.mem_map_of_mem hp); simpa [okD] using this) (by have := lz (len_lst ok); rwa [List.length_map] at this) h1 h2
  | tuple l =>
    dsimp! only [w_check_stack, fs_is_sequence, isSeq]
    refine ⟨_, rfl, ?_⟩
    dsimp! only [isSeq]
    refine ⟨lz (len_tup ok), lcI_map (fun x => .bool (isStrT x)) (fun x hx Kn kn => ?_) ?_⟩
    · dsimp! only [isA_isStrT]
      exact kn
    · refine ⟨_, bools_map _ _, ?_⟩
      rw [all_]
      cases c : l.all isStrT with
      | false =>
        dsimp! only [wRaise]
        exact hx (by simp [isSeq, seqL, c])
      | true =>
        obtain ⟨ys, rfl⟩ := strs_codes c
        obtain ⟨h1, h2⟩ := hq ys rfl rfl
        dsimp! only [id_eq]
        exact stack5 rfl rfl (fun _ => rfl) (fun p hp => by have := of_tup ok (codeD p) (List.mem_map_of_mem hp); simpa [okD] using this) (by have := lz (len_tup ok); rwa [List.length_map] at this) h1 h2
  | _ =>
    dsimp! only [w_check_stack, fs_is_sequence, isSeq]
    refine ⟨_, rfl, ?_⟩
    dsimp! only [isSeq, wRaise]
    exact hx rfl

def w_check_text_1 : WS := (wExpr (wCall (fs_check_stack) (wCons (wTup (wCons (wVar 0) wNil)) (wCons (wVar 1) wNil))))
def w_check_text : WS := (wSeq (wIfS (wNotT (wB (wIsi (wBor 0) "str"))) (wRaise "BadValue" ["at"] (wCons (wVar 1) wNil)) wNext) w_check_text_1)

def textX (d : PyData) (k : Int) : Option XN := match d with
  | .str s => stackX [s.cps.toList]
  | _ => some (xBad k)
def fs_check_text : FS := fun as Q X => ∃ (d : PyData) (k : Int), as = [.v d, .v (.int k)] ∧ okD d = true ∧ (∀ l, d = codeD l → shortL l) ∧ (match textX d k with | some x => X x | none => Q (.d .none) [])
theorem l_check_text : ∀ as Q X, fs_check_text as Q X → as.length = 2 := by rintro as Q X ⟨_, _, rfl, _⟩; rfl
theorem m_check_text : ∀ as Q X, fs_check_text as Q X → w_check_text (as ++ List.replicate 0 Sl.no) (endP 2 Q X) := by
  rintro as Q X ⟨d, k, rfl, ok, sh, h⟩
  cases d with
  | str s =>
    obtain ⟨l, rfl⟩ : ∃ l, s = ofL l := ⟨s.cps.toList, (ofL_of s).symm⟩
    have okl : okS (ofL l) = true := by simpa [okD] using ok
    dsimp! only [w_check_text, w_check_text_1, fs_check_stack]
    refine ⟨by decide, _, k, ⟨rfl, rfl⟩, by simpa [okD, okDs] using ok, by simp [isSeq, seqL, isStrT], fun ys _ hy => ?_⟩
    have : ys = [l] := by
      cases ys with
      | nil => simp [seqL] at hy
      | cons y r =>
        cases r with
        | nil =>
          have e : codeD l = codeD y := by simpa [seqL] using hy
          have e2 : ofL l = ofL y := by injection e
          rw [ofL_inj e2]
        | cons z r => simp [seqL] at hy
    subst this
    refine ⟨.inr fun p hp => by rw [List.mem_singleton.mp hp]; exact sh l rfl, ?_⟩
    have : textX (.str (ofL l)) k = stackX [l] := by simp only [textX, ofL_l]
    rw [this] at h
    cases hs : stackX [l] with
    | some x => rw [hs] at h; exact h
    | none => rw [hs] at h; exact h
  | _ =>
    dsimp! only [w_check_text]
    dsimp! only [wRaise]
    exact h

def w_is_text : WS := (wRet (wAndV (wIsi (wBor 0) "str") (wAndV (wBin fLe (wPrim fLen (wCons (wCall (fs_split_lines) (wCons (wVar 0) wNil)) wNil)) (wC (PyData.int 2000))) (wBin fIsN (wCall (fs_first_bad) (wCons (wVar 0) wNil)) (wC PyData.none)))))

def isTextL (l : List Nat) : Bool := decide ((linesL l).length ≤ 2000) && isNone (firstBad l)
def isTextD (d : PyData) : Bool := match d with
  | .str s => isTextL s.cps.toList
  | _ => false
def fs_is_text : FS := fun as Q _ => ∃ d, as = [.v d] ∧ okD d = true ∧ (∀ l, d = codeD l → shortL l) ∧ Q (.d (.bool (isTextD d))) []
theorem l_is_text : ∀ as Q X, fs_is_text as Q X → as.length = 1 := by rintro as Q X ⟨d, rfl, _⟩; rfl
theorem m_is_text : ∀ as Q X, fs_is_text as Q X → w_is_text (as ++ List.replicate 0 Sl.no) (endP 1 Q X) := by
  rintro as Q X ⟨d, rfl, ok, sh, h⟩
  cases d with
  | str s =>
    obtain ⟨l, rfl⟩ : ∃ l, s = ofL l := ⟨s.cps.toList, (ofL_of s).symm⟩
    have okl : okS (ofL l) = true := by simpa [okD] using ok
    have e : isTextD (.str (ofL l)) = isTextL l := by
      show isTextL (ofL l).cps.toList = _
      rw [ofL_l]
    rw [e] at h
    unfold isTextL at h
    dsimp! only [w_is_text, fs_split_lines, isA]
    refine ⟨l, rfl, okl, ?_⟩
    have e2 : decide ((((linesL l).map codeD).length : Int) ≤ 2000) = decide ((linesL l).length ≤ 2000) := by rw [List.length_map, decide_eq_decide]; omega
    rw [e2]
    cases c : decide ((linesL l).length ≤ 2000) with
    | false =>
      rw [c] at h
      simpa only [wSeq, wIfS, wRet, wRetN, wNext, wBreak, wCont, wNever, wSet, wAsg, wPar, wExpr, wFor, wApp, wPop, wSetIx, wVar, wBor, wTake, wC, wBin, wNil, wCons, wPrim, wCall, wTup, wLst, wSl, wNone, wSome, wM0, wM1, wB, wAndT, wOrT, wNotT, wAndV, wOrV, wNotV, wIf, wIsi, wIsi2, wNeg, wChain, wSortedSet, X_txl, X_txt, wIt, wIt.rdf, wRng1, wRng2, wLc, wYes, lcS, wipeG, backG, noMut, rd_d, rd_o, rd_b, rdf_d, rdf_o, fz_d, fz_o, fz_b, sl_d, sl_o, ok_d, ok_o, argSl_d, argSl_o, argSl_b, items_l, items_t, items_s, rds, rdF, stOk_eq, ncO_some, nc_v, nc_own, nc_no, stOks, setAll, wG, mutAt, putAt, Sl.mu, Sl.put, argSls, noB, fewB, putB, endP, cellsOf, cellF, List.getElem?_cons_zero, List.getElem?_cons_succ, List.getElem?_nil, List.set_cons_zero, List.set_cons_succ, List.append_eq, List.nil_append, List.cons_append, List.replicate, List.take_succ_cons, List.take_zero, List.take_nil, List.filterMap_cons, List.filterMap_nil, Option.map_some, Option.map_none, List.length_cons, List.length_nil, wExt, rdO_o, rdO_b, wDin, wLc2, lc2S, wAugI, wKin, wKix, wDix, wMinN, wEnum, wZip, wForE, wGE, wDget, wDget2, wSortedD, wLenSet, seqD_l, seqD_t, textsOf_l, textsOf_t, F_add_i, F_add_s, F_add_l, F_add_t, F_int, F_cmp_i, F_cmp_s, F_in_l, F_in_t, F_in_s, F_ix_l, F_ix_t, F_ix_s, F_sl_l, F_sl_t, F_sl_s, F_len_l, F_len_t, F_len_s, F_toInt, F_toStr, F_toTup_l, F_toTup_t, F_toLst_l, F_toLst_t, F_all, F_any, F_split, F_join_l, F_join_t, F_part, F_start, F_end, F_strip, F_sorted_l, F_sorted_t, N_none, N_str, N_int, N_bool, N_tup, N_lst, S_str, S_none, S_int, S_bool, S_tup, S_lst, I_str, I_none, I_int, I_bool, I_tup, I_lst, B_str, B_none, B_int, B_bool, B_tup, B_lst, T_str, T_none, T_int, T_bool, T_tup, T_lst, L_str, L_none, L_int, L_bool, L_tup, L_lst, D_str, D_none, D_int, D_bool, D_tup, D_lst, N_dic, S_dic, I_dic, B_dic, T_dic, L_dic, D_dic, E_ss, E_ii, E_bb, E_ns, E_is, E_bs, E_nn, isA_str, isA_int, isA_bool, isA_tuple, isA_list, isA_dict, fEq, fNe, fIsN, fNotN, eqv_str, eqv_int, eqv_bool, F_sumI, exists_eq_left', exists_eq_left, exists_and_left, R.d.injEq, R.o.injEq, PyData.bool.injEq, PyData.str.injEq, PyData.int.injEq, PyData.tuple.injEq, PyData.list.injEq, List.cons.injEq, Option.some.injEq, and_true, true_and, and_self, Bool.not_true, Bool.not_false, Bool.false_eq_true, Bool.true_eq_false, Bool.true_and, Bool.false_and, Bool.true_or, Bool.false_or, if_true, if_false, reduceIte, reduceCtorEq, not_false_eq_true, ne_eq, true_or, or_true, false_or, or_false, List.map_nil, List.map_cons, Option.toList_some, Option.toList_none, false_and, and_false, Bool.not_eq_true, Bool.or_false, Bool.or_true, Bool.and_true, Bool.and_false, Bool.false_and] using h
    | true =>
      rw [c] at h
      dsimp! only [fs_first_bad]
      refine ⟨l, rfl, okl, sh l rfl, ?_⟩
      simpa using h
  | _ =>
    dsimp! only [w_is_text, isA]
    exact h

def w_lines_of_1 : WS := (wRet (wPrim fToTup (wCons (wCall (fs_split_lines) (wCons (wVar 0) wNil)) wNil)))
def w_lines_of : WS := (wSeq (wIfS (wOrT (wNotT (wB (wIsi (wBor 0) "str"))) (wAndT (wB (wBin fNe (wBor 0) (wC (PyData.str "")))) (wNotT (wB (wM1 fEnd (wVar 0) (wC (PyData.str "\n"))))))) (wRaise "BadValue" ["at"] (wCons (wC (PyData.int 1)) wNil)) wNext) w_lines_of_1)

/-- lines_of refuses -/
def badLines (d : PyData) : Bool := match d with
  | .str s => !decide (s.cps.toList = []) && !endsL [10] s.cps.toList
  | _ => true
def fs_lines_of : FS := fun as Q X => ∃ d : PyData, as = [.v d] ∧ okD d = true ∧ (badLines d = true → X (xBad 1)) ∧ (badLines d = false → ∀ l, d = codeD l → Q (.d (.tuple ((linesL l).map codeD))) [])
theorem l_lines_of : ∀ as Q X, fs_lines_of as Q X → as.length = 1 := by rintro as Q X ⟨_, rfl, _⟩; rfl
theorem m_lines_of : ∀ as Q X, fs_lines_of as Q X → w_lines_of (as ++ List.replicate 0 Sl.no) (endP 1 Q X) := by
  rintro as Q X ⟨d, rfl, ok, hx, hq⟩
  cases d with
  | str s =>
    obtain ⟨l, rfl⟩ : ∃ l, s = ofL l := ⟨s.cps.toList, (ofL_of s).symm⟩
    have okl : okS (ofL l) = true := by simpa [okD] using ok
    simp only [badLines, ofL_l] at hx hq
    dsimp! only [w_lines_of, fs_split_lines, ends_ofL, nl_cs, ofL_beq, cs_empty, R_bad]
    have good : (!decide (l = []) && !endsL [10] l) = false → w_lines_of_1 [.v (codeD l)] (endP 1 Q X) := fun hb => by
      dsimp! only [w_lines_of_1, fs_split_lines]
      exact ⟨l, rfl, okl, hq hb l rfl⟩
    cases c1 : decide (l = []) with
    | true =>
      dsimp! only [c1] at hx good ⊢
      exact good trivial
    | false =>
      dsimp! only [c1] at hx good ⊢
      cases c2 : endsL [10] l with
      | true =>
        dsimp! only [c2] at hx good ⊢
        exact good trivial
      | false =>
        dsimp! only [c2] at hx good ⊢
        exact hx trivial
  | _ =>
    dsimp! only [w_lines_of, R_bad]
    exact hx rfl

def w_joined_1 : WS := (wRet (wM1 fJoin (wC (PyData.str "")) (wLc (wIt (wVar 0)) (.n 1) wYes (wBin fAdd (wBor 1) (wC (PyData.str "\n"))) [1])))
def w_joined : WS := (wSeq (wIfS (wOrT (wNotT (wB (wCall (fs_is_sequence) (wCons (wVar 0) wNil)))) (wNotT (wB (wPrim fAll (wCons (wLc (wIt (wVar 0)) (.n 1) wYes (wAndV (wIsi (wBor 1) "str") (wBin (fIn true) (wC (PyData.str "\n")) (wBor 1))) [1]) wNil))))) (wRaise "BadValue" ["at"] (wCons (wC (PyData.int 1)) wNil)) wNext) w_joined_1)

def lineB (d : PyData) : Bool := match d with
  | .str s => !decide (10 ∈ s.cps.toList)
  | _ => false
def joinedOk (d : PyData) : Bool := isSeq d && (seqL d).all lineB
def textJ (L : List (List Nat)) : List Nat := L.flatMap fun l => l ++ [10]
def glueJ (s : List Nat) : List (List Nat) → List Nat
  | [] => []
  | [p] => p
  | p :: q :: r => p ++ (s ++ glueJ s (q :: r))
theorem glueJ_nil : ∀ ps : List (List Nat), glueJ [] ps = ps.flatten
  | [] => rfl
  | [p] => by simp [glueJ]
  | p :: q :: r => by
    rw [glueJ, glueJ_nil (q :: r)]
    simp
theorem glueJ_flat (s : List Nat) (p : List Nat) : ∀ r : List (List Nat), glueJ s (p :: r) = p ++ r.flatMap fun q => s ++ q
  | [] => by simp [glueJ]
  | q :: r => by
    rw [glueJ, glueJ_flat s q r]
    simp
theorem foldJ (g : Str) : ∀ (l : List Str) (a : Array Nat), (l.foldl (fun acc p => acc ++ g.cps ++ p.cps) a).toList = a.toList ++ l.flatMap fun p => g.cps.toList ++ p.cps.toList
  | [], a => by simp
  | p :: l, a => by
    rw [List.foldl_cons, foldJ g l]
    simp
theorem joinJ : ∀ ps : List (List Nat), Txt.join (Str.ofString "") (ps.map ofL) = ofL ps.flatten
  | [] => by show Txt.join _ [] = ofL []; rfl
  | p :: r => by
    refine str_ext ?_
    rw [ofL_l, ← glueJ_nil, glueJ_flat]
    show ((r.map ofL).foldl (fun acc q => acc ++ (Str.ofString "").cps ++ q.cps) (ofL p).cps).toList = _
    rw [foldJ, ofL_l]
    congr 1
    induction r with
    | nil => rfl
    | cons q r ih =>
      simp only [List.map_cons, List.flatMap_cons, ih, ofL_l]
      rfl
theorem lenJ {n : Nat} : ∀ {ys : List (List Nat)}, (ys.map fun l => l.length + 1).sum ≤ n → ((((ys.map fun l => l ++ [10]).map ofL).map (·.length)).sum ≤ n)
  | [], _ => by simp
  | y :: ys, h => by
    simp only [List.map_cons, List.sum_cons, ofL_len, List.length_append, List.length_singleton] at h ⊢
    have := lenJ (n := n - (y.length + 1)) (ys := ys) (by omega)
    omega
/-- the comprehension that puts a newline behind each -/
theorem nlJ (l : List Nat) : ofL l ++ Str.ofString "\n" = ofL (l ++ [10]) := by
  rw [show Str.ofString "\n" = ofL [10] from by decide +kernel, ofL_append]
theorem strsJ (L : List (List Nat)) : strsD (L.map fun l => codeD (l ++ [10])) = some ((L.map fun l => l ++ [10]).map ofL) := by
  have := strsD_codes (L.map fun l => l ++ [10])
  rw [List.map_map] at this
  exact this
theorem sumP : ∀ {L : List (List Nat)} {n : Nat}, (∀ l ∈ L, l.length ≤ n) → (L.map fun l => l.length + 1).sum ≤ (n + 1) * L.length
  | [], _, _ => by simp
  | l :: r, n, h => by
    have h1 := h l (by simp)
    have h2 := sumP (L := r) (n := n) fun x hx => h x (List.mem_cons_of_mem _ hx)
    simp only [List.map_cons, List.sum_cons, List.length_cons, Nat.mul_succ]
    omega
theorem textP_len (L : List (List Nat)) : (textJ L).length = (L.map fun l => l.length + 1).sum := by
  induction L with
  | nil => rfl
  | cons l r ih =>
    have e : textJ (l :: r) = l ++ ([10] ++ textJ r) := by simp [textJ]
    rw [e]
    simp only [List.length_append, List.length_cons, List.length_nil, List.map_cons, List.sum_cons, ih]
    omega

def fs_joined : FS := fun as Q X => ∃ d : PyData, as = [.v d] ∧ okD d = true ∧ (joinedOk d = false → X (xBad 1)) ∧ (joinedOk d = true → ∀ ys : List (List Nat), seqL d = ys.map codeD → (ys.map fun l => l.length + 1).sum ≤ 16000000 ∧ Q (.d (codeD (textJ ys))) [])
theorem l_joined : ∀ as Q X, fs_joined as Q X → as.length = 1 := by rintro as Q X ⟨_, rfl, _⟩; rfl
theorem lines_codes : ∀ {l : List PyData}, l.all lineB = true → ∃ ys : List (List Nat), l = ys.map codeD
  | [], _ => ⟨[], rfl⟩
  | d :: r, h => by
    rw [List.all_cons, Bool.and_eq_true] at h
    obtain ⟨ys, e⟩ := lines_codes h.2
    cases d with
    | str s => exact ⟨s.cps.toList :: ys, by rw [e, List.map_cons]; show _ = PyData.str (ofL s.cps.toList) :: _; rw [ofL_of]⟩
    | _ => exact absurd h.1 (by simp [lineB])
theorem m_joined : ∀ as Q X, fs_joined as Q X → w_joined (as ++ List.replicate 1 Sl.no) (endP 1 Q X) := by
  rintro as Q X ⟨d, rfl, ok, hx, hq⟩
  have enl : Str.ofString "\n" = sg 10 := by decide +kernel
  have all_ : ∀ l : List PyData, (l.map fun x => lineB x).all id = l.all lineB := fun l => by rw [List.all_map]; rfl
  have l1 : (Str.ofString "\n").length = 1 := by decide +kernel
  have d0 : (Str.ofString "").length = 0 := by decide +kernel
  have one : ∀ (x : PyData) (Γ : G) (Kn : Option PyData → G → Prop), okD x = true → Kn (some (.bool (lineB x))) [.v d, .no] → lcS (.n 1) wYes (wAndV (wIsi (wBor 1) "str") (wBin (fIn true) (wC (PyData.str "\n")) (wBor 1))) [1] Kn x [.v d, .no] := by
    intro x Γ Kn okx kn
    cases x with
    | str s =>
      dsimp! only [id_eq]
      exact ⟨10, enl, kn⟩
    | _ =>
      dsimp! only [id_eq]
      exact kn
  have last : ∀ (ys : List (List Nat)), items d = some (ys.map codeD) → (∀ l ∈ ys, okS (ofL l) = true) → (ys.map codeD).length < sizeLine → (ys.map fun l => l.length + 1).sum ≤ 16000000 → Q (.d (codeD (textJ ys))) [] → w_joined_1 [.v d, .no] (endP 1 Q X) := by
    intro ys hi oks hz hs q
    dsimp! only [w_joined_1, hi]
    refine ⟨hz, lcI_mapE ys codeD (fun l => codeD (l ++ [10])) rfl (fun l hl Kn kn => ?_) ?_⟩
    · dsimp! only [id_eq]
      rw [nlJ, l1, ofL_len]
      have := okS_len2 (oks l hl)
      exact ⟨Nat.le_trans (show l.length + 1 ≤ 1000001 by omega) (by decide), kn⟩
    · dsimp! only [id_eq]
      refine ⟨_, strsJ ys, by rw [d0]; have := lenJ hs; omega, ?_⟩
      rw [joinJ]
      exact q
  cases d with
  | list l =>
    dsimp! only [w_joined, fs_is_sequence, isSeq]
    refine ⟨_, rfl, ?_⟩
    dsimp! only [isSeq]
    refine ⟨lz (len_lst ok), lcI_map (fun x => .bool (lineB x)) (fun x hx Kn kn => one x [] Kn (of_lst ok x hx) kn) ?_⟩
    refine ⟨_, bools_map _ _, ?_⟩
    rw [all_]
    cases c : l.all lineB with
    | false =>
      dsimp! only [R_bad]
      exact hx (by simp [joinedOk, isSeq, seqL, c])
    | true =>
      obtain ⟨ys, rfl⟩ := lines_codes c
      obtain ⟨h1, h2⟩ := hq (by simp only [joinedOk, isSeq, seqL, c, Bool.and_self]) ys rfl
      dsimp! only [id_eq]
      exact last ys rfl (fun p hp => by have := of_lst ok (codeD p) (List.mem_map_of_mem hp); simpa [okD] using this) (lz (len_lst ok)) h1 h2
  | tuple l =>
    dsimp! only [w_joined, fs_is_sequence, isSeq]
    refine ⟨_, rfl, ?_⟩
    dsimp! only [isSeq]
    refine ⟨lz (len_tup ok), lcI_map (fun x => .bool (lineB x)) (fun x hx Kn kn => one x [] Kn (of_tup ok x hx) kn) ?_⟩
    refine ⟨_, bools_map _ _, ?_⟩
    rw [all_]
    cases c : l.all lineB with
    | false =>
      dsimp! only [R_bad]
      exact hx (by simp [joinedOk, isSeq, seqL, c])
    | true =>
      obtain ⟨ys, rfl⟩ := lines_codes c
      obtain ⟨h1, h2⟩ := hq (by simp only [joinedOk, isSeq, seqL, c, Bool.and_self]) ys rfl
      dsimp! only [id_eq]
      exact last ys rfl (fun p hp => by have := of_tup ok (codeD p) (List.mem_map_of_mem hp); simpa [okD] using this) (lz (len_tup ok)) h1 h2
  | _ =>
    dsimp! only [w_joined, fs_is_sequence, isSeq]
    refine ⟨_, rfl, ?_⟩
    dsimp! only [isSeq, R_bad]
    exact hx rfl

def w_statements_1 : WS := (wRet (wPrim fToTup (wCons (wCall (fs_statements_in) (wCons (wVar 0) wNil)) wNil)))
def w_statements : WS := (wSeq (wExpr (wCall (fs_check_text) (wCons (wVar 0) (wCons (wC (PyData.int 1)) wNil)))) w_statements_1)

theorem scan_len : ∀ (bs : List Body) (k : Nat) (s : List Int × List Int), s.1.length + s.2.length ≤ (scanB k s bs).1.length + (scanB k s bs).2.length + bs.length
  | [], _, _ => Nat.le_refl _
  | b :: r, k, s => by
    have := scan_len r (k + 1) (badStep k s b)
    rw [scanB]
    simp only [List.length_cons]
    cases b with
    | fin =>
      simp only [badStep] at this ⊢
      split at this <;> split <;> simp only [List.length_append, List.length_dropLast, List.length_singleton] at this ⊢ <;> omega
    | wh f vs p =>
      simp only [badStep] at this ⊢
      split at this <;> split <;> simp only [List.length_append, List.length_singleton] at this ⊢ <;> omega
    | no =>
      simp only [badStep, List.length_append, List.length_singleton] at this ⊢
      omega
    | nothing => exact Nat.le_succ_of_le this
    | sec t => exact Nat.le_succ_of_le this
    | st a b c => exact Nat.le_succ_of_le this
/-- nothing is bad only where all is well -/
theorem scan_mono : ∀ (bs : List Body) (k : Nat) (s : List Int × List Int), s.1 <+: (scanB k s bs).1
  | [], _, s => List.prefix_refl _
  | b :: r, k, s => by
    rw [scanB]
    refine List.IsPrefix.trans ?_ (scan_mono r (k + 1) _)
    cases b with
    | no => exact List.prefix_append _ _
    | wh f vs p =>
      simp only [badStep]
      split
      · exact List.prefix_append _ _
      · exact List.prefix_refl _
    | fin =>
      simp only [badStep]
      split
      · exact List.prefix_refl _
      · exact List.prefix_append _ _
    | nothing => exact List.prefix_refl _
    | sec t => exact List.prefix_refl _
    | st a b c => exact List.prefix_refl _
theorem scan_good : ∀ (bs : List Body) (k : Nat) (s : List Int × List Int), (scanB k s bs).1 = [] → wellB s.2.length bs = true ∧ ∀ b ∈ bs, b ≠ .no
  | [], _, s, _ => ⟨by simp [wellB], fun _ h => by cases h⟩
  | b :: r, k, s, h => by
    rw [scanB] at h
    have hp := scan_mono r (k + 1) (badStep k s b)
    rw [h] at hp
    have e0 : (badStep k s b).1 = [] := List.prefix_nil.mp hp
    obtain ⟨h1, h2⟩ := scan_good r (k + 1) (badStep k s b) h
    have cons : b ≠ .no → ∀ c ∈ b :: r, c ≠ .no := fun hb c hc => by
      rcases List.mem_cons.mp hc with rfl | hc
      · exact hb
      · exact h2 c hc
    cases b with
    | no => simp [badStep] at e0
    | wh f vs p =>
      refine ⟨?_, cons (by simp)⟩
      simpa [badStep, wellB] using h1
    | fin =>
      simp only [badStep] at e0 h1
      split at e0
      · rename_i hw
        rw [if_pos hw] at h1
        refine ⟨?_, cons (by simp)⟩
        obtain ⟨m, hm⟩ : ∃ m, s.2.length = m + 1 := ⟨s.2.length - 1, by omega⟩
        rw [hm, wellB]
        simpa [hm] using h1
      · simp at e0
    | nothing => exact ⟨by simpa [badStep, wellB] using h1, cons (by simp)⟩
    | sec t => exact ⟨by simpa [badStep, wellB] using h1, cons (by simp)⟩
    | st a b c => exact ⟨by simpa [badStep, wellB] using h1, cons (by simp)⟩
theorem first_none {l : List Nat} (h : firstBad l = .none) : badOf l = [] ∧ (scanB 0 ([], []) (bodiesL l)).1 = [] ∧ (scanB 0 ([], []) (bodiesL l)).2 = [] := by
  unfold firstBad at h
  cases e : badOf l ++ (scanB 0 ([], []) (bodiesL l)).2 with
  | cons x r => rw [e] at h; cases h
  | nil =>
    obtain ⟨h1, h2⟩ := List.append_eq_nil_iff.mp e
    refine ⟨h1, ?_, h2⟩
    unfold badOf at h1
    split at h1
    · simp at h1
    · exact h1
theorem stack_none {l : List Nat} (h : stackX [l] = none) : firstBad l = .none := by
  unfold stackX at h
  split at h
  · cases h
  · split at h
    · cases h
    · rcases first_cases l with hf | ⟨i, hf⟩
      · exact hf
      · rw [badLayer, hf] at h
        cases h
/-- the parts of a body are no longer than its line -/
theorem short_body {l : List Nat} (h : l.length ≤ 3000) : shortB (bodyB l) = true := by
  have told : ∀ m : List Nat, m.length ≤ 3000 → shortB (toldB m) = true := fun m hm => by
    unfold toldB
    split
    · rfl
    · split
      · rfl
      · split
        · unfold sectionB
          split
          · have := (sub_sec m).len
            simp only [shortB, decide_eq_true_eq]
            omega
          · rfl
        · split
          · unfold whenB whenBody
            split <;> rfl
          · split
            · split
              · have := (sub_part2 [32] m).len
                simp only [shortB, decide_eq_true_eq]
                omega
              · rfl
            · unfold statementB stBody
              have := (sub_part1 [32] m).len
              split
              · rfl
              · split
                · simp only [shortB, decide_eq_true_eq]
                  omega
                · rfl
  unfold bodyB
  have s1 := sub_part1 [35] l
  have sl := (sub_lst 32 (partL [35] l).1).trans s1
  have sr := (sub_rst 32 (lstL 32 (partL [35] l).1)).trans sl
  split
  · exact told _ (by have := sr.len; omega)
  · exact told _ (by have := sl.len; omega)

def fs_statements : FS := fun as Q X => ∃ (d : PyData), as = [.v d] ∧ okD d = true ∧ (∀ l, d = codeD l → shortL l) ∧ (∀ x, textX d 1 = some x → X x) ∧ (textX d 1 = none → ∀ l, d = codeD l → Q (.d (.tuple ((stmL l).map Stm.d))) [])
theorem l_statements : ∀ as Q X, fs_statements as Q X → as.length = 1 := by rintro as Q X ⟨_, rfl, _⟩; rfl
theorem m_statements : ∀ as Q X, fs_statements as Q X → w_statements (as ++ List.replicate 0 Sl.no) (endP 1 Q X) := by
  rintro as Q X ⟨d, rfl, ok, sh, hx, hq⟩
  dsimp! only [w_statements, w_statements_1, fs_check_text, fs_statements_in]
  refine ⟨d, 1, ⟨rfl, rfl⟩, ok, sh, ?_⟩
  cases ht : textX d 1 with
  | some x => exact hx x ht
  | none =>
    cases d with
    | str s =>
      obtain ⟨l, rfl⟩ : ∃ l, s = ofL l := ⟨s.cps.toList, (ofL_of s).symm⟩
      have okl : okS (ofL l) = true := by simpa [okD] using ok
      have hs : stackX [l] = none := by simpa [textX, ofL_l] using ht
      obtain ⟨_, b1, b2⟩ := first_none (stack_none hs)
      obtain ⟨w1, w2⟩ := scan_good (bodiesL l) 0 ([], []) b1
      refine ⟨l, rfl, okl, sh l rfl, w2, w1, fun b hb => ?_, ?_⟩
      · unfold bodiesL at hb
        obtain ⟨p, hp, rfl⟩ := List.mem_map.mp hb
        exact short_body (sh l rfl p hp)
      · exact hq ht l rfl
    | _ => cases ht

def w__law_so_1 (fs_rec : FS) : WS := (wIfS (wNotT (wB (wCall fs_rec (wCons (wBin fIx (wBor 0) (wVar 2)) (wCons (wBin fIx (wBor 1) (wVar 2)) wNil))))) (wRet (wC (PyData.bool false))) wNext)
def w__law_so_2 : WS := (wRet (wC (PyData.bool true)))
def w__law_so_3 (fs_rec : FS) : WS := (wSeq (wFor (wRng1 (wCons (wPrim fLen (wCons (wBor 1) wNil)) wNil)) (.n 2) (w__law_so_1 fs_rec)) w__law_so_2)
def w__law_so_4 : WS := (wRet (wAndV (wIsi (wBor 1) "str") (wAndV (wIsi (wBor 0) "str") (wBin fEq (wBor 0) (wBor 1)))))
def w__law_so_5 : WS := (wSeq (wIfS (wB (wIsi (wBor 1) "int")) (wRet (wAndV (wIsi (wBor 0) "int") (wBin fEq (wBor 0) (wBor 1)))) wNext) w__law_so_4)
def w__law_so_6 : WS := (wSeq (wIfS (wOrT (wB (wIsi (wBor 1) "bool")) (wB (wIsi (wBor 0) "bool"))) (wRet (wAndV (wIsi (wBor 1) "bool") (wAndV (wIsi (wBor 0) "bool") (wBin fEq (wBor 0) (wBor 1))))) wNext) w__law_so_5)
def w__law_so_7 (fs_rec : FS) : WS := (wSeq (wIfS (wB (wIsi (wBor 1) "tuple")) (wSeq (wIfS (wOrT (wNotT (wB (wIsi (wBor 0) "tuple"))) (wB (wBin fNe (wPrim fLen (wCons (wBor 0) wNil)) (wPrim fLen (wCons (wBor 1) wNil))))) (wRet (wC (PyData.bool false))) wNext) (w__law_so_3 fs_rec)) wNext) w__law_so_6)
def w__law_so (fs_rec : FS) : WS := (wSeq (wIfS (wB (wBin fIsN (wBor 1) (wC PyData.none))) (wRet (wBin fIsN (wBor 0) (wC PyData.none))) wNext) (w__law_so_7 fs_rec))

mutual
def soD : PyData → PyData → Bool
  | x, .tuple ms => match x with
    | .tuple xs => soAll xs ms
    | _ => false
  | x, .none => isNone x
  | x, .bool b => match x with
    | .bool c => c == b
    | _ => false
  | x, .int i => match x with
    | .int j => j == i
    | _ => false
  | x, .str s => match x with
    | .str t => t == s
    | _ => false
  | _, .list _ => false
  | _, .dict _ => false
def soAll : List PyData → List PyData → Bool
  | xs, [] => xs.isEmpty
  | xs, m :: ms => match xs with
    | x :: xs => soD x m && soAll xs ms
    | [] => false
end

theorem soAll_of : ∀ {xs ms : List PyData}, xs.length = ms.length → (∀ (k : Nat) (x m : PyData), xs[k]? = some x → ms[k]? = some m → soD x m = true) → soAll xs ms = true
  | [], [], _, _ => by simp [soAll]
  | x :: xs, m :: ms, hl, h => by
    simp only [soAll, Bool.and_eq_true]
    exact ⟨h 0 x m rfl rfl, soAll_of (by simpa using hl) fun k a b ha hb => h (k + 1) a b (by simpa using ha) (by simpa using hb)⟩
theorem soAll_len : ∀ {xs ms : List PyData}, soAll xs ms = true → xs.length = ms.length
  | [], [], _ => rfl
  | _ :: _, [], h => by simp [soAll] at h
  | [], _ :: _, h => by simp [soAll] at h
  | x :: xs, m :: ms, h => by
    simp only [soAll, Bool.and_eq_true] at h
    simp [soAll_len h.2]
theorem soAll_at : ∀ {xs ms : List PyData} {k : Nat} {x m : PyData}, soAll xs ms = true → xs[k]? = some x → ms[k]? = some m → soD x m = true
  | [], _, k, x, m, _, hx, _ => by simp at hx
  | _ :: _, [], k, x, m, _, _, hm => by simp at hm
  | x :: xs, m :: ms, 0, y, n, h, hx, hm => by
    simp only [soAll, Bool.and_eq_true] at h
    simp at hx hm
    rw [← hx, ← hm]
    exact h.1
  | x :: xs, m :: ms, k + 1, y, n, h, hx, hm => by
    simp only [soAll, Bool.and_eq_true] at h
    exact soAll_at h.2 (by simpa using hx) (by simpa using hm)
def fsr__law_so (n : Nat) : FS := fun as Q _ => ∃ x m, as = [.v x, .v m] ∧ m.depth < n ∧ okD m = true ∧ Q (.d (.bool (soD x m))) []
abbrev fs__law_so : FS := fsr__law_so 12
theorem z__law_so : ∀ as Q X, ¬ fsr__law_so 0 as Q X := by rintro as Q X ⟨x, m, _, h, _⟩; omega
theorem l__law_so (n : Nat) : ∀ as Q X, fsr__law_so n as Q X → as.length = 2 := by rintro as Q X ⟨_, _, rfl, _⟩; rfl
theorem m__law_so (n : Nat) : ∀ as Q X, fsr__law_so (n + 1) as Q X → w__law_so (fsr__law_so n) (as ++ List.replicate 1 Sl.no) (endP 2 Q X) := by
  rintro as Q X ⟨x, m, rfl, hd, ok, h⟩
  cases m with
  | none =>
    dsimp! only [w__law_so]
    simpa only [soD] using h
  | tuple ms =>
    dsimp! only [w__law_so, w__law_so_7]
    have h0 : ∀ y, (∀ l, y ≠ .tuple l) → soD y (.tuple ms) = false := fun y hy => by
      simp only [soD]
      try (split; exact absurd rfl (hy _); rfl)
    cases x with
    | tuple xs =>
      dsimp! only [id_eq]
      by_cases hl : xs.length = ms.length
      · have e1 : (((xs.length : Nat) : Int) == ((ms.length : Nat) : Int)) = true := by rw [hl]; exact beq_self_eq_true _
        simp only [e1, exists_eq_left', exists_eq_left, exists_and_left, R.d.injEq, R.o.injEq, PyData.bool.injEq, PyData.str.injEq, PyData.int.injEq, PyData.tuple.injEq, PyData.list.injEq, List.cons.injEq, Option.some.injEq, and_true, true_and, and_self, Bool.not_true, Bool.not_false, Bool.false_eq_true, Bool.true_eq_false, Bool.true_and, Bool.false_and, Bool.true_or, Bool.false_or, if_true, if_false, reduceIte, reduceCtorEq, not_false_eq_true, ne_eq, true_or, or_true, false_or, or_false, List.map_nil, List.map_cons, Option.toList_some, Option.toList_none, false_and, and_false, Bool.not_eq_true, Bool.or_false, Bool.or_true, Bool.and_true, Bool.and_false, w__law_so_3, wSeq, wIfS, wRet, wRetN, wNext, wBreak, wCont, wNever, wSet, wAsg, wPar, wExpr, wFor, wApp, wPop, wSetIx, wVar, wBor, wTake, wC, wBin, wNil, wCons, wPrim, wCall, wTup, wLst, wSl, wNone, wSome, wM0, wM1, wB, wAndT, wOrT, wNotT, wAndV, wOrV, wNotV, wIf, wIsi, wIsi2, wNeg, wChain, wSortedSet, X_txl, X_txt, wIt, wIt.rdf, wRng1, wRng2, wLc, wYes, lcS, wipeG, backG, noMut, rd_d, rd_o, rd_b, rdf_d, rdf_o, fz_d, fz_o, fz_b, sl_d, sl_o, ok_d, ok_o, argSl_d, argSl_o, argSl_b, items_l, items_t, items_s, rds, rdF, stOk_eq, ncO_some, nc_v, nc_own, nc_no, stOks, setAll, wG, mutAt, putAt, Sl.mu, Sl.put, argSls, noB, fewB, putB, endP, cellsOf, cellF, List.getElem?_cons_zero, List.getElem?_cons_succ, List.getElem?_nil, List.set_cons_zero, List.set_cons_succ, List.append_eq, List.nil_append, List.cons_append, List.replicate, List.take_succ_cons, List.take_zero, List.take_nil, List.filterMap_cons, List.filterMap_nil, Option.map_some, Option.map_none, List.length_cons, List.length_nil, wExt, rdO_o, rdO_b, wDin, wLc2, lc2S, wAugI, wKin, wKix, wDix, wMinN, wEnum, wZip, wForE, wGE, wDget, wDget2, wSortedD, wLenSet, seqD_l, seqD_t, textsOf_l, textsOf_t, F_add_i, F_add_s, F_add_l, F_add_t, F_int, F_cmp_i, F_cmp_s, F_in_l, F_in_t, F_in_s, F_ix_l, F_ix_t, F_ix_s, F_sl_l, F_sl_t, F_sl_s, F_len_l, F_len_t, F_len_s, F_toInt, F_toStr, F_toTup_l, F_toTup_t, F_toLst_l, F_toLst_t, F_all, F_any, F_split, F_join_l, F_join_t, F_part, F_start, F_end, F_strip, F_sorted_l, F_sorted_t, N_none, N_str, N_int, N_bool, N_tup, N_lst, S_str, S_none, S_int, S_bool, S_tup, S_lst, I_str, I_none, I_int, I_bool, I_tup, I_lst, B_str, B_none, B_int, B_bool, B_tup, B_lst, T_str, T_none, T_int, T_bool, T_tup, T_lst, L_str, L_none, L_int, L_bool, L_tup, L_lst, D_str, D_none, D_int, D_bool, D_tup, D_lst, N_dic, S_dic, I_dic, B_dic, T_dic, L_dic, D_dic, E_ss, E_ii, E_bb, E_ns, E_is, E_bs, E_nn, isA_str, isA_int, isA_bool, isA_tuple, isA_list, isA_dict, fEq, fNe, fIsN, fNotN, eqv_str, eqv_int, eqv_bool, F_sumI]
        refine ⟨inR_of (len_tup ok), ?_⟩
        have hms := of_tup ok
        refine forI_E (List.range ms.length) (fun (k : Nat) => .int (0 + k)) (fun pre Γ => ∃ e, Γ = [.v (.tuple xs), .v (.tuple ms), e] ∧ nc e ∧ ∀ (k : Nat) (a b : PyData), k < pre.length → xs[k]? = some a → ms[k]? = some b → soD a b = true) ?_ ⟨_, rfl, trivial, by simp⟩ ?_ ?_
        · rw [rangeL_map]; simp
        · rintro pre k post _ q ⟨e, rfl, ne, hall⟩ N hN
          have hk : k = pre.length ∧ k < ms.length := by
            have h1 : (List.range ms.length)[pre.length]? = some k := by rw [q]; simp
            rw [List.getElem?_range] at h1
            · have := Option.some.inj h1
              refine ⟨this.symm, ?_⟩
              have h2 := congrArg List.length q
              simp only [List.length_range, List.length_append, List.length_cons] at h2
              omega
            · have h2 := congrArg List.length q
              simp only [List.length_range, List.length_append, List.length_cons] at h2
              omega
          obtain ⟨hk1, hk2⟩ := hk
          have ax : atI xs (0 + (k : Int)) = some xs[k] := by rw [Int.zero_add]; exact atI_nat (List.getElem?_eq_getElem (by omega))
          have am : atI ms (0 + (k : Int)) = some ms[k] := by rw [Int.zero_add]; exact atI_nat (List.getElem?_eq_getElem hk2)
          dsimp! only [w__law_so_1, fsr__law_so, ne, ax, am, Option.some.injEq]
          refine ⟨xs[k], ms[k], ⟨rfl, rfl⟩, ?_, hms _ (List.getElem_mem _), ?_⟩
          · have h3 := depth_mem (List.getElem_mem hk2)
            simp only [PyData.depth] at hd
            omega
          · cases hs : soD xs[k] ms[k] with
            | true =>
              simp only [exists_eq_left', exists_eq_left, exists_and_left, R.d.injEq, R.o.injEq, PyData.bool.injEq, PyData.str.injEq, PyData.int.injEq, PyData.tuple.injEq, PyData.list.injEq, List.cons.injEq, Option.some.injEq, and_true, true_and, and_self, Bool.not_true, Bool.not_false, Bool.false_eq_true, Bool.true_eq_false, Bool.true_and, Bool.false_and, Bool.true_or, Bool.false_or, if_true, if_false, reduceIte, reduceCtorEq, not_false_eq_true, ne_eq, true_or, or_true, false_or, or_false, List.map_nil, List.map_cons, Option.toList_some, Option.toList_none, false_and, and_false, Bool.not_eq_true, Bool.or_false, Bool.or_true, Bool.and_true, Bool.and_false]
              refine hN _ ⟨_, rfl, trivial, fun j a b hj ha hb => ?_⟩
              by_cases hjk : j < pre.length
              · exact hall j a b hjk ha hb
              · have : j = k := by simp at hj; omega
                subst this
                rw [List.getElem?_eq_getElem (by omega)] at ha hb
                rw [← Option.some.inj ha, ← Option.some.inj hb]
                exact hs
            | false =>
              simp only [exists_eq_left', exists_eq_left, exists_and_left, R.d.injEq, R.o.injEq, PyData.bool.injEq, PyData.str.injEq, PyData.int.injEq, PyData.tuple.injEq, PyData.list.injEq, List.cons.injEq, Option.some.injEq, and_true, true_and, and_self, Bool.not_true, Bool.not_false, Bool.false_eq_true, Bool.true_eq_false, Bool.true_and, Bool.false_and, Bool.true_or, Bool.false_or, if_true, if_false, reduceIte, reduceCtorEq, not_false_eq_true, ne_eq, true_or, or_true, false_or, or_false, List.map_nil, List.map_cons, Option.toList_some, Option.toList_none, false_and, and_false, Bool.not_eq_true, Bool.or_false, Bool.or_true, Bool.and_true, Bool.and_false]
              have : soD (.tuple xs) (.tuple ms) = false := by
                simp only [soD]
                cases hq : soAll xs ms with
                | false => rfl
                | true =>
                  have := soAll_at hq (List.getElem?_eq_getElem (by omega : k < xs.length)) (List.getElem?_eq_getElem hk2)
                  rw [hs] at this
                  cases this
              rw [this] at h
              exact h
        · rintro _ ⟨e, rfl, ne, hall⟩
          dsimp! only [w__law_so_2]
          have : soD (.tuple xs) (.tuple ms) = true := by
            simp only [soD]
            exact soAll_of hl fun k a b ha hb => hall k a b (by rw [List.length_range]; exact (List.getElem?_eq_some_iff.mp hb).1) ha hb
          rw [this] at h
          exact h
      · have e1 : (((xs.length : Nat) : Int) == ((ms.length : Nat) : Int)) = false := by
          rw [beq_eq_false_iff_ne]; omega
        simp only [e1, exists_eq_left', exists_eq_left, exists_and_left, R.d.injEq, R.o.injEq, PyData.bool.injEq, PyData.str.injEq, PyData.int.injEq, PyData.tuple.injEq, PyData.list.injEq, List.cons.injEq, Option.some.injEq, and_true, true_and, and_self, Bool.not_true, Bool.not_false, Bool.false_eq_true, Bool.true_eq_false, Bool.true_and, Bool.false_and, Bool.true_or, Bool.false_or, if_true, if_false, reduceIte, reduceCtorEq, not_false_eq_true, ne_eq, true_or, or_true, false_or, or_false, List.map_nil, List.map_cons, Option.toList_some, Option.toList_none, false_and, and_false, Bool.not_eq_true, Bool.or_false, Bool.or_true, Bool.and_true, Bool.and_false]
        have : soD (.tuple xs) (.tuple ms) = false := by
          simp only [soD]
          cases hq : soAll xs ms with
          | false => rfl
          | true => exact absurd (soAll_len hq) hl
        rw [this] at h
        exact h
    | _ =>
      rw [h0 _ (fun l z => by cases z)] at h
      dsimp! only [id_eq]
      exact h
  | bool b =>
    dsimp! only [w__law_so, w__law_so_7, w__law_so_6]
    cases x <;> dsimp! only [id_eq] <;> simpa only [soD] using h
  | int i =>
    dsimp! only [w__law_so, w__law_so_7, w__law_so_6, w__law_so_5]
    cases x <;> dsimp! only [id_eq] <;> simpa only [soD] using h
  | str s =>
    dsimp! only [w__law_so, w__law_so_7, w__law_so_6, w__law_so_5, w__law_so_4]
    cases x <;> dsimp! only [id_eq] <;> simpa only [soD] using h
  | list l =>
    dsimp! only [w__law_so, w__law_so_7, w__law_so_6, w__law_so_5, w__law_so_4]
    cases x <;> dsimp! only [id_eq] <;> simpa only [soD] using h
  | dict l =>
    dsimp! only [w__law_so, w__law_so_7, w__law_so_6, w__law_so_5, w__law_so_4]
    cases x <;> dsimp! only [id_eq] <;> simpa only [soD] using h

def w__law_numbers_1 : WS := (wSet (wBin fDiv (wBor 3) (wC (PyData.int 997))) 3)
def w__law_numbers_2 : WS := (wSeq (wApp 1 (wBin fMod (wPrim fToInt (wCons (wBor 3) wNil)) (wC (PyData.int 997)))) w__law_numbers_1)
def w__law_numbers_3 : WS := (wSeq (wIfS (wB (wBin fEq (wBor 3) (wC (PyData.int 0)))) wBreak wNext) w__law_numbers_2)
def w__law_numbers_4 : WS := (wFor (wRng1 (wCons (wC (PyData.int 60)) wNil)) (.n 4) w__law_numbers_3)
def w__law_numbers_5 : WS := (wApp 1 (wBin fMod (wPrim fToInt (wCons (wBin fAdd (wBin fMul (wBor 5) (wC (PyData.int 16807))) (wBor 4)) wNil)) (wC (PyData.int 2147483629))))
def w__law_numbers_6 : WS := (wSeq (wSet (wBin fMod (wPrim fToInt (wCons (wBin fAdd (wBin fAdd (wBin fMul (wBor 2) (wC (PyData.int 48271))) (wBin fMul (wBor 4) (wC (PyData.int 69621)))) (wC (PyData.int 11))) wNil)) (wC (PyData.int 2147483647))) 5) w__law_numbers_5)
def w__law_numbers_7 : WS := (wIfS (wB (wBin fGe (wBor 2) (wBin fPow (wC (PyData.int 10)) (wC (PyData.int 18))))) (wSeq (wSet (wVar 2) 3) w__law_numbers_4) (wFor (wRng1 (wCons (wC (PyData.int 4)) wNil)) (.n 4) w__law_numbers_6))
def w__law_numbers_8 : WS := (wRet (wTake 1))
def w__law_numbers_9 : WS := (wSeq (wIfS (wB (wBin fEq (wPrim fLen (wCons (wBor 1) wNil)) (wC (PyData.int 0)))) (wApp 1 (wC (PyData.int 0))) wNext) w__law_numbers_8)
def w__law_numbers_10 : WS := (wSeq (wFor (wIt (wSl fSl (wBor 0) wNone (wSome (wC (PyData.int 63))))) (.n 2) w__law_numbers_7) w__law_numbers_9)
def w__law_numbers : WS := (wSeq (wSet (wLst wNil) 1) w__law_numbers_10)

def fs__law_numbers : FS := fun as Q _ => ∃ ns : List Int, as = [.v (.list (ns.map .int))] ∧ ∀ row : List Int, 0 < row.length → row.length ≤ 4000 → Q (.o (row.map .int)) []
theorem l__law_numbers : ∀ as Q X, fs__law_numbers as Q X → as.length = 1 := by rintro as Q X ⟨d, rfl, _⟩; rfl
theorem m__law_numbers : ∀ as Q X, fs__law_numbers as Q X → w__law_numbers (as ++ List.replicate 5 Sl.no) (endP 1 Q X) := by
  rintro as Q X ⟨ns, rfl, h⟩
  dsimp! only [w__law_numbers, w__law_numbers_10, cut63]
  refine ⟨by decide, ?_⟩
  refine forI_E (ns.take 63) PyData.int (fun pre Γ => ∃ (rw : List Int) (a b c d : Sl), Γ = [.v (.list (ns.map .int)), .own (rw.map .int), a, b, c, d] ∧ nc a ∧ nc b ∧ nc c ∧ nc d ∧ rw.length ≤ 60 * pre.length) rfl ⟨[], _, _, _, _, rfl, trivial, trivial, trivial, trivial, Nat.le_refl _⟩ ?_ ?_
  · rintro pre x post _ q ⟨rw, a, b, c, d, rfl, na, nb, nc1, nd, hl⟩ N hN
    have hp : pre.length ≤ 62 := by
      have := congrArg List.length q
      simp only [List.length_take, List.length_append, List.length_cons] at this
      omega
    dsimp! only [w__law_numbers_7, na, nb]
    refine ⟨cpow10, ?_⟩
    split
    · dsimp! only [w__law_numbers_4]
      refine ⟨inR_c, ?_⟩
      refine forI_E (List.range 60) (fun (i : Nat) => PyData.int (0 + i)) (fun pre2 Γ => ∃ (r2 : List Int) (lf : Int) (c d : Sl), Γ = [.v (.list (ns.map .int)), .own (r2.map .int), .v (.int x), .v (.int lf), c, d] ∧ nc c ∧ nc d ∧ r2.length ≤ 60 * pre.length + pre2.length) rfl ⟨rw, x, c, d, rfl, nc1, nd, hl⟩ ?_ ?_
      · rintro pre2 y post2 _ q2 ⟨r2, lf, c, d, rfl, nc1, nd, hl2⟩ N2 hN2
        have hp2 : pre2.length < 60 := by
          have := congrArg List.length q2
          simp only [List.length_range, List.length_append, List.length_cons] at this
          omega
        have hz : r2.length < sizeLine := Nat.lt_of_le_of_lt (show r2.length ≤ 3780 by omega) (by decide)
        dsimp! only [w__law_numbers_3, w__law_numbers_2, w__law_numbers_1, nc1]
        split
        · exact hN _ ⟨r2, _, _, _, _, rfl, trivial, trivial, (by exact trivial), nd, by simp only [List.length_append, List.length_singleton]; omega⟩
        · simp only [List.length_map, hz, exists_eq', exists_eq_left', exists_eq_left, exists_and_left, R.d.injEq, R.o.injEq, PyData.bool.injEq, PyData.str.injEq, PyData.int.injEq, PyData.tuple.injEq, PyData.list.injEq, List.cons.injEq, Option.some.injEq, and_true, true_and, and_self, Bool.not_true, Bool.not_false, Bool.false_eq_true, Bool.true_eq_false, Bool.true_and, Bool.false_and, Bool.true_or, Bool.false_or, if_true, if_false, reduceIte, reduceCtorEq, not_false_eq_true, ne_eq, true_or, or_true, false_or, or_false, List.map_nil, List.map_cons, Option.toList_some, Option.toList_none, false_and, and_false, Bool.not_eq_true, Bool.or_false, Bool.or_true, Bool.and_true, Bool.and_false]
          refine ⟨by decide, by exact ⟨by decide, by decide⟩, ?_⟩
          exact hN2 _ ⟨r2 ++ [lf % 997], lf / 997, _, _, by rw [List.map_append]; rfl, (by exact trivial), nd, by simp only [List.length_append, List.length_singleton]; omega⟩
      · rintro _ ⟨r2, lf, c, d, rfl, nc1, nd, hl2⟩
        exact hN _ ⟨r2, _, _, _, _, rfl, trivial, trivial, nc1, nd, by simp only [List.length_append, List.length_singleton, List.length_range] at *; omega⟩
    · refine ⟨inR_c, ?_⟩
      refine forI_E (List.range 4) (fun (i : Nat) => PyData.int (0 + i)) (fun pre2 Γ => ∃ (r2 : List Int) (b c d : Sl), Γ = [.v (.list (ns.map .int)), .own (r2.map .int), .v (.int x), b, c, d] ∧ nc b ∧ nc c ∧ nc d ∧ r2.length ≤ 60 * pre.length + pre2.length) rfl ⟨rw, b, c, d, rfl, nb, nc1, nd, hl⟩ ?_ ?_
      · rintro pre2 y post2 _ q2 ⟨r2, b, c, d, rfl, nb, nc1, nd, hl2⟩ N2 hN2
        have hp2 : pre2.length < 4 := by
          have := congrArg List.length q2
          simp only [List.length_range, List.length_append, List.length_cons] at this
          omega
        have hz : r2.length < sizeLine := Nat.lt_of_le_of_lt (show r2.length ≤ 3780 by omega) (by decide)
        dsimp! only [w__law_numbers_6, w__law_numbers_5, nc1, nd, List.length_map, hz, exists_eq']
        refine ⟨cmulR _ _, cmulR _ _, by decide, cmulR _ _, by decide, ?_⟩
        exact hN2 _ ⟨r2 ++ [_], _, _, _, by rw [List.map_append]; rfl, nb, (by exact trivial), (by exact trivial), by simp only [List.length_append, List.length_singleton]; omega⟩
      · rintro _ ⟨r2, b, c, d, rfl, nb, nc1, nd, hl2⟩
        exact hN _ ⟨r2, _, _, _, _, rfl, trivial, nb, nc1, nd, by simp only [List.length_append, List.length_singleton, List.length_range] at *; omega⟩
  · rintro _ ⟨rw, a, b, c, d, rfl, na, nb, nc1, nd, hl⟩
    have hl2 : (ns.take 63).length ≤ 63 := by simp only [List.length_take]; omega
    dsimp! only [w__law_numbers_9, w__law_numbers_8]
    split
    · rename_i hz
      simp only [List.length_map, beq_iff_eq] at hz
      have : rw = [] := List.length_eq_zero_iff.mp (by omega)
      subst this
      simp only [List.map_nil, wSeq, wIfS, wRet, wRetN, wNext, wBreak, wCont, wNever, wSet, wAsg, wPar, wExpr, wFor, wApp, wPop, wSetIx, wVar, wBor, wTake, wC, wBin, wNil, wCons, wPrim, wCall, wTup, wLst, wSl, wNone, wSome, wM0, wM1, wB, wAndT, wOrT, wNotT, wAndV, wOrV, wNotV, wIf, wIsi, wIsi2, wNeg, wChain, wSortedSet, X_txl, X_txt, wIt, wIt.rdf, wRng1, wRng2, wLc, wYes, lcS, wipeG, backG, noMut, rd_d, rd_o, rd_b, rdf_d, rdf_o, fz_d, fz_o, fz_b, sl_d, sl_o, ok_d, ok_o, argSl_d, argSl_o, argSl_b, items_l, items_t, items_s, rds, rdF, stOk_eq, ncO_some, nc_v, nc_own, nc_no, stOks, setAll, wG, mutAt, putAt, Sl.mu, Sl.put, argSls, noB, fewB, putB, endP, cellsOf, cellF, List.getElem?_cons_zero, List.getElem?_cons_succ, List.getElem?_nil, List.set_cons_zero, List.set_cons_succ, List.append_eq, List.nil_append, List.cons_append, List.replicate, List.take_succ_cons, List.take_zero, List.take_nil, List.filterMap_cons, List.filterMap_nil, Option.map_some, Option.map_none, List.length_cons, List.length_nil, wExt, rdO_o, rdO_b, wDin, wLc2, lc2S, wAugI, wKin, wKix, wDix, wMinN, wEnum, wZip, wForE, wGE, wDget, wDget2, wSortedD, wLenSet, seqD_l, seqD_t, textsOf_l, textsOf_t, exists_eq_left', exists_eq_left, exists_and_left, R.d.injEq, R.o.injEq, PyData.bool.injEq, PyData.str.injEq, PyData.int.injEq, PyData.tuple.injEq, PyData.list.injEq, List.cons.injEq, Option.some.injEq, and_true, true_and, and_self, Bool.not_true, Bool.not_false, Bool.false_eq_true, Bool.true_eq_false, Bool.true_and, Bool.false_and, Bool.true_or, Bool.false_or, if_true, if_false, reduceIte, reduceCtorEq, not_false_eq_true, ne_eq, true_or, or_true, false_or, or_false, List.map_nil, List.map_cons, Option.toList_some, Option.toList_none, false_and, and_false, Bool.not_eq_true, Bool.or_false, Bool.or_true, Bool.and_true, Bool.and_false, exists_eq']
      refine ⟨by decide, ?_⟩
      exact h [0] (by decide) (by decide)
    · rename_i hz
      simp only [List.length_map, beq_iff_eq] at hz
      exact h rw (by omega) (by omega)

def w__law_draw_1 : WS := (wRet (wBin fMod (wPrim fToInt (wCons (wBin fMod (wPrim fToInt (wCons (wBin fAdd (wBin fMul (wBor 3) (wC (PyData.int 48271))) (wBor 1)) wNil)) (wC (PyData.int 2147483647))) wNil)) (wBor 2)))
def w__law_draw_2 : WS := (wSeq (wSet (wBin fMod (wPrim fToInt (wCons (wBin fAdd (wBin fAdd (wBin fMul (wBin fIx (wBor 0) (wBin fMod (wPrim fToInt (wCons (wBor 1) wNil)) (wPrim fLen (wCons (wBor 0) wNil)))) (wC (PyData.int 40692))) (wBin fMul (wBor 1) (wC (PyData.int 7919)))) (wC (PyData.int 3))) wNil)) (wC (PyData.int 2147483399))) 3) w__law_draw_1)
def w__law_draw : WS := (wSeq (wIfS (wB (wBin fLt (wBor 1) (wPrim fLen (wCons (wBor 0) wNil)))) (wRet (wBin fMod (wPrim fToInt (wCons (wBin fIx (wBor 0) (wVar 1)) wNil)) (wBor 2))) wNext) w__law_draw_2)

def fs__law_draw : FS := fun as Q _ => ∃ (row : List Int) (at_ lim : Int), as = [.v (.list (row.map .int)), .v (.int at_), .v (.int lim)] ∧ 0 < row.length ∧ 0 ≤ at_ ∧ 0 < lim ∧ ∀ r : Int, 0 ≤ r → r < lim → Q (.d (.int r)) []
theorem l__law_draw : ∀ as Q X, fs__law_draw as Q X → as.length = 3 := by rintro as Q X ⟨_, _, _, rfl, _⟩; rfl
theorem m__law_draw : ∀ as Q X, fs__law_draw as Q X → w__law_draw (as ++ List.replicate 1 Sl.no) (endP 3 Q X) := by
  rintro as Q X ⟨row, a, lim, rfl, hr, ha, hl, h⟩
  have hm : ∀ i : Int, Q (.d (.int (i % lim))) [] := fun i => h _ (mod_lt i hl).1 (mod_lt i hl).2
  have at_ok : ∀ k : Int, 0 ≤ k → k < row.length → ∃ x : Int, atI (row.map PyData.int) k = some (.int x) := fun k h0 h1 => by
    have hk : k.toNat < row.length := by omega
    refine ⟨row[k.toNat], ?_⟩
    have := atI_nat (xs := row.map PyData.int) (k := k.toNat) (x := .int row[k.toNat]) (by simp [hk])
    rwa [show ((k.toNat : Nat) : Int) = k by omega] at this
  dsimp! only [w__law_draw, w__law_draw_2, w__law_draw_1, List.length_map]
  split
  · rename_i hb
    obtain ⟨x, hx⟩ := at_ok a ha (of_decide_eq_true hb)
    refine ⟨_, hx, ?_⟩
    dsimp! only [id_eq]
    exact ⟨hl, hm _⟩
  · obtain ⟨x, hx⟩ := at_ok (a % row.length) (mod_lt _ (by omega)).1 (mod_lt _ (by omega)).2
    refine ⟨by omega, _, hx, ?_⟩
    dsimp! only [id_eq]
    exact ⟨cmulR _ _, cmulR _ _, by decide, cmulR _ _, by decide, hl, hm _⟩

def w__law_take_1 : WS := (wRet (wCall (fs__law_draw) (wCons (wVar 0) (wCons (wBin fSub (wBin fIx (wBor 1) (wC (PyData.int 0))) (wC (PyData.int 1))) (wCons (wVar 2) wNil)))))
def w__law_take : WS := (wSeq (wSetIx 1 (wBin fAdd (wBin fIx (wBor 1) (wC (PyData.int 0))) (wC (PyData.int 1))) (wC (PyData.int 0))) w__law_take_1)

/-- a draw from row at spot: some number below the limit -/
def fs__law_take : FS := fun as Q _ => ∃ (row : List Int) (k lim : Int), as = [.v (.list (row.map .int)), .cell [.int k], .v (.int lim)] ∧ 0 < row.length ∧ 0 ≤ k ∧ 0 < lim ∧ ∀ r : Int, 0 ≤ r → r < lim → Q (.d (.int r)) [[.int (k + 1)]]
theorem l__law_take : ∀ as Q X, fs__law_take as Q X → as.length = 3 := by rintro as Q X ⟨_, _, _, rfl, _⟩; rfl
theorem m__law_take : ∀ as Q X, fs__law_take as Q X → w__law_take (as ++ List.replicate 0 Sl.no) (endP 3 Q X) := by
  rintro as Q X ⟨row, k, lim, rfl, hr, hk, hl, h⟩
  have i0 : ∀ j : Int, atI [PyData.int j] 0 = some (.int j) := fun _ => rfl
  dsimp! only [w__law_take, w__law_take_1, i0, exists_eq', fs__law_draw]
  refine ⟨0, rfl, .int (k + 1), rfl, ?_⟩
  dsimp! only [id_eq]
  refine ⟨row, _, lim, ⟨rfl, rfl, rfl⟩, hr, ?_, hl, fun r h0 h1 => h r h0 h1⟩
  omega

def w__law_letters_1 : WS := (wSet (wBin fAdd (wBor 4) (wBin fIx (wBor 3) (wCall (fs__law_take) (wCons (wVar 0) (wCons (wBor 1) (wCons (wPrim fLen (wCons (wBor 3) wNil)) wNil)))))) 4)
def w__law_letters_2 : WS := (wRet (wTake 4))
def w__law_letters_3 : WS := (wSeq (wFor (wRng1 (wCons (wVar 2) wNil)) (.n 5) w__law_letters_1) w__law_letters_2)
def w__law_letters : WS := (wSeq (wSet (wC (PyData.str "")) 4) w__law_letters_3)

/-- a text of as many signs as asked, out of the given signs -/
def fs__law_letters : FS := fun as Q _ => ∃ (row : List Int) (k many : Int) (signs : Str), as = [.v (.list (row.map .int)), .cell [.int k], .v (.int many), .v (.str signs)] ∧ 0 < row.length ∧ 0 ≤ k ∧ 0 ≤ many ∧ many ≤ 100000 ∧ 0 < signs.length ∧ signs.length ≤ 100000 ∧
  ∀ (cs : List Nat) (k' : Int), 0 ≤ k' → (cs.length : Int) = many → (∀ c ∈ cs, c ∈ signs.cps.toList) → Q (.d (.str ⟨cs.toArray⟩)) [[.int k']]
theorem l__law_letters : ∀ as Q X, fs__law_letters as Q X → as.length = 4 := by rintro as Q X ⟨_, _, _, _, rfl, _⟩; rfl
theorem m__law_letters : ∀ as Q X, fs__law_letters as Q X → w__law_letters (as ++ List.replicate 2 Sl.no) (endP 4 Q X) := by
  rintro as Q X ⟨row, k, many, signs, rfl, hr, hk, hm, hm2, hs, hs2, h⟩
  dsimp! only [w__law_letters, w__law_letters_3]
  refine ⟨⟨by omega, by omega⟩, ?_⟩
  refine forI_E (List.range many.toNat) (fun (i : Nat) => PyData.int (0 + i)) (fun pre Γ => ∃ (cs : List Nat) (j : Int) (e : Sl), Γ = [.v (.list (row.map .int)), .cell [.int j], .v (.int many), .v (.str signs), .v (.str ⟨cs.toArray⟩), e] ∧ nc e ∧ 0 ≤ j ∧ cs.length = pre.length ∧ ∀ c ∈ cs, c ∈ signs.cps.toList) rfl ⟨[], k, _, rfl, trivial, hk, rfl, by simp⟩ ?_ ?_
  · rintro pre x post _ q ⟨cs, j, e, rfl, ne, hj, hl, hc⟩ N hN
    have hp : pre.length < many.toNat := by
      have := congrArg List.length q
      simp only [List.length_range, List.length_append, List.length_cons] at this
      omega
    have hz : signs.length ≤ sizeLine := Nat.le_trans hs2 (by decide)
    dsimp! only [w__law_letters_1, fs__law_take, ne, hz]
    refine ⟨row, j, _, ⟨rfl, rfl, rfl⟩, hr, hj, by omega, fun r h0 h1 => ?_⟩
    have hr2 : r.toNat < signs.cps.toList.length := by simp only [Array.length_toList]; unfold Str.length at h1; omega
    refine ⟨signs.cps.toList[r.toNat], ?_, ?_, ?_⟩
    · have := atI_nat (xs := signs.cps.toList) (k := r.toNat) (x := signs.cps.toList[r.toNat]) (List.getElem?_eq_getElem hr2)
      rwa [show ((r.toNat : Nat) : Int) = r by omega] at this
    · have : ∀ c, (sg c).length = 1 := fun _ => rfl
      rw [this]
      refine Nat.le_trans (show _ ≤ 100001 from ?_) (by decide)
      show cs.toArray.size + 1 ≤ _
      simp only [List.size_toArray]
      omega
    · refine hN _ ⟨cs ++ [signs.cps.toList[r.toNat]], j + 1, .v (.int (0 + (x : Int))), ?_, trivial, by omega, by simp [hl], ?_⟩
      · have : (⟨cs.toArray⟩ : Str) ++ sg signs.cps.toList[r.toNat] = ⟨(cs ++ [signs.cps.toList[r.toNat]]).toArray⟩ := by
          show (⟨cs.toArray ++ #[signs.cps.toList[r.toNat]]⟩ : Str) = _
          simp
        rw [this]
      · intro c hcc
        rcases List.mem_append.mp hcc with z | z
        · exact hc c z
        · rw [List.mem_singleton.mp z]; exact List.getElem_mem _
  · rintro _ ⟨cs, j, e, rfl, ne, hj, hl, hc⟩
    dsimp! only [w__law_letters_2]
    exact h cs j hj (by rw [hl, List.length_range]; omega) hc

def w__law_text_fault_1 : WS := (wIfS (wB (wBin fEq (wBor 0) (wC (PyData.int 0)))) (wExpr (wCall (fs_lines_of) (wCons (wVar 1) wNil))) (wIfS (wB (wBin fEq (wBor 0) (wC (PyData.int 1)))) (wExpr (wCall (fs_joined) (wCons (wVar 1) wNil))) (wExpr (wCall (fs_statements) (wCons (wVar 1) wNil)))))
def w__law_text_fault_2 : WS := (wRet (wC PyData.none))
def w__law_text_fault : WS := (wSeq (wTryM 2 w__law_text_fault_1 [([("BadValue", true), ("BadLine", false), ("TooMany", false)], (fun x : XN => (List.lookup ("at" : PySem.Str) x.fs).map fun y => PyData.tuple [(PyData.str "value"), y])), ([("BadValue", false), ("BadLine", true), ("TooMany", false)], (fun x : XN => (List.lookup ("layer" : PySem.Str) x.fs).bind fun y => (List.lookup ("at" : PySem.Str) x.fs).map fun z => PyData.tuple [(PyData.str "line"), y, z])), ([("BadValue", false), ("BadLine", false), ("TooMany", true)], (fun x : XN => (List.lookup ("word" : PySem.Str) x.fs).map fun y => PyData.tuple [(PyData.str "many"), y]))]) w__law_text_fault_2)

/-! the three errors, as the laws' catchers tell them -/
inductive errX : XN → PyData → Prop
  | bad (k : Int) : errX (xBad k) (.tuple [.str "value", .int k])
  | line (k : Nat) (d : PyData) : errX (xLine k d) (.tuple [.str "line", .int (k : Nat), d])
  | many (s : String) : errX (xMany s) (.tuple [.str "many", .str (Str.ofString s)])
abbrev cls3 : List Clause := [([("BadValue", true), ("BadLine", false), ("TooMany", false)], (fun x : XN => (List.lookup ("at" : PySem.Str) x.fs).map fun y => PyData.tuple [(PyData.str "value"), y])), ([("BadValue", false), ("BadLine", true), ("TooMany", false)], (fun x : XN => (List.lookup ("layer" : PySem.Str) x.fs).bind fun y => (List.lookup ("at" : PySem.Str) x.fs).map fun z => PyData.tuple [(PyData.str "line"), y, z])), ([("BadValue", false), ("BadLine", false), ("TooMany", true)], (fun x : XN => (List.lookup ("word" : PySem.Str) x.fs).map fun y => PyData.tuple [(PyData.str "many"), y]))]
theorem ne_bl : (Str.ofString "BadLine" == Str.ofString "BadValue") = false := by decide +kernel
theorem ne_mv : (Str.ofString "TooMany" == Str.ofString "BadValue") = false := by decide +kernel
theorem ne_ml : (Str.ofString "TooMany" == Str.ofString "BadLine") = false := by decide +kernel
theorem ne_la : (Str.ofString "layer" == Str.ofString "at") = false := by decide +kernel
theorem cl3 {x : XN} {y : PyData} (h : errX x y) {i : Nat} {P : Pst} {Γ : G} (ok : stOk Γ i) (q : P.rt (.d y) (Γ.set i .no)) : wClauses i P cls3 x Γ := by
  cases h with
  | bad k =>
    have t : List.lookup (xBad k).tag [((Str.ofString "BadValue"), true), (Str.ofString "BadLine", false), (Str.ofString "TooMany", false)] = some true := by simp only [xBad, List.lookup_cons, beq_self_eq_true]
    simp only [cls3, wClauses, t]
    exact ⟨ok, _, by simp only [xBad, List.lookup_cons, beq_self_eq_true, Option.map_some], q⟩
  | line k d =>
    have t : List.lookup (xLine k d).tag [((Str.ofString "BadValue"), true), (Str.ofString "BadLine", false), (Str.ofString "TooMany", false)] = some false := by simp only [xLine, List.lookup_cons, beq_self_eq_true, ne_bl]
    have t2 : List.lookup (xLine k d).tag [((Str.ofString "BadValue"), false), (Str.ofString "BadLine", true), (Str.ofString "TooMany", false)] = some true := by simp only [xLine, List.lookup_cons, beq_self_eq_true, ne_bl]
    simp only [cls3, wClauses, t, t2]
    exact ⟨ok, _, by simp only [xLine, List.lookup_cons, beq_self_eq_true, ne_la, Option.bind_some, Option.map_some], q⟩
  | many s =>
    have t : List.lookup (xMany s).tag [((Str.ofString "BadValue"), true), (Str.ofString "BadLine", false), (Str.ofString "TooMany", false)] = some false := by simp only [xMany, List.lookup_cons, beq_self_eq_true, ne_mv, ne_ml]
    have t2 : List.lookup (xMany s).tag [((Str.ofString "BadValue"), false), (Str.ofString "BadLine", true), (Str.ofString "TooMany", false)] = some false := by simp only [xMany, List.lookup_cons, beq_self_eq_true, ne_mv, ne_ml]
    have t3 : List.lookup (xMany s).tag [((Str.ofString "BadValue"), false), (Str.ofString "BadLine", false), (Str.ofString "TooMany", true)] = some true := by simp only [xMany, List.lookup_cons, beq_self_eq_true, ne_mv, ne_ml]
    simp only [cls3, wClauses, t, t2, t3]
    exact ⟨ok, _, by simp only [xMany, List.lookup_cons, beq_self_eq_true, Option.map_some], q⟩
theorem badLayer_form : ∀ (ys : List (List Nat)) (k : Nat) (x : XN), badLayer k ys = some x → ∃ j d, x = xLine j d
  | [], _, _, h => by cases h
  | l :: r, k, x, h => by
    rcases first_cases l with e | ⟨i, e⟩
    · rw [badLayer, e] at h
      exact badLayer_form r (k + 1) x h
    · rw [badLayer, e] at h
      exact ⟨k, .int i, (Option.some.inj h).symm⟩
theorem stackX_form {ys : List (List Nat)} {x : XN} (h : stackX ys = some x) : ∃ y, errX x y := by
  unfold stackX at h
  split at h
  · rw [← Option.some.inj h]; exact ⟨_, .many _⟩
  · split at h
    · rw [← Option.some.inj h]; exact ⟨_, .many _⟩
    · obtain ⟨j, d, rfl⟩ := badLayer_form ys 0 x h
      exact ⟨_, .line j d⟩
theorem textX_form {d : PyData} {k : Int} {x : XN} (h : textX d k = some x) : ∃ y, errX x y := by
  cases d with
  | str s => exact stackX_form h
  | _ => exact ⟨_, by rw [← Option.some.inj h]; exact .bad k⟩

/-- what the catcher tells of a call: no error, or one -/
def toldX (r : Option XN) (y : PyData) : Prop := match r with
  | none => y = .none
  | some x => errX x y
def linesX (d : PyData) : Option XN := if badLines d = true then some (xBad 1) else none
def joinedX (d : PyData) : Option XN := if joinedOk d = true then none else some (xBad 1)
def fs__law_text_fault : FS := fun as Q _ => ∃ (k : Int) (d y : PyData), as = [.v (.int k), .v d] ∧ okD d = true ∧ Q (.d y) [] ∧
  ((k = 0 ∧ toldX (linesX d) y) ∨ (k = 1 ∧ toldX (joinedX d) y ∧ (joinedOk d = true → ∀ ys : List (List Nat), seqL d = ys.map codeD → (ys.map fun l => l.length + 1).sum ≤ 16000000)) ∨ (k = 2 ∧ toldX (textX d 1) y ∧ ∀ l, d = codeD l → shortL l))
theorem l__law_text_fault : ∀ as Q X, fs__law_text_fault as Q X → as.length = 2 := by rintro as Q X ⟨_, _, _, rfl, _⟩; rfl
theorem m__law_text_fault : ∀ as Q X, fs__law_text_fault as Q X → w__law_text_fault (as ++ List.replicate 1 Sl.no) (endP 2 Q X) := by
  rintro as Q X ⟨k, d, y, rfl, ok, hq, h⟩
  have stk : stOk [Sl.v (.int k), Sl.v d, Sl.no] 2 := by exact trivial
  have e10 : ((1 : Int) == 0) = false := rfl
  have e20 : ((2 : Int) == 0) = false := rfl
  have e21 : ((2 : Int) == 1) = false := rfl
  have fin : ∀ x, errX x y → wClauses 2 { nx := fun Γ' => w__law_text_fault_2 Γ' (endP 2 Q X), rt := (endP 2 Q X).rt, bk := (endP 2 Q X).bk, ct := (endP 2 Q X).ct, xc := (endP 2 Q X).xc } cls3 x [Sl.v (.int k), Sl.v d, Sl.no] := fun x hx => cl3 hx stk ⟨trivial, hq⟩
  have none_ : y = .none → w__law_text_fault_2 [Sl.v (.int k), Sl.v d, Sl.no] (endP 2 Q X) := fun hy => by
    subst hy
    dsimp! only [w__law_text_fault_2]
    exact hq
  rcases h with ⟨rfl, ht⟩ | ⟨rfl, ht, hs⟩ | ⟨rfl, ht, hs⟩
  · dsimp! only [w__law_text_fault, wTryM, w__law_text_fault_1, fs_lines_of, beq_self_eq_true]
    refine ⟨d, rfl, ok, fun hb => ?_, fun hb l e => ?_⟩
    · unfold linesX at ht
      rw [if_pos hb] at ht
      exact fin _ ht
    · unfold linesX at ht
      rw [hb] at ht
      exact none_ ht
  · dsimp! only [w__law_text_fault, wTryM, w__law_text_fault_1, fs_joined, beq_self_eq_true, e10]
    refine ⟨d, rfl, ok, fun hb => ?_, fun hb ys e => ⟨hs hb ys e, ?_⟩⟩
    · unfold joinedX at ht
      rw [hb] at ht
      exact fin _ ht
    · unfold joinedX at ht
      rw [if_pos hb] at ht
      exact none_ ht
  · dsimp! only [w__law_text_fault, wTryM, w__law_text_fault_1, fs_statements, beq_self_eq_true, e20, e21]
    refine ⟨d, rfl, ok, hs, fun x hx => ?_, fun hn l e => ?_⟩
    · rw [hx] at ht
      exact fin _ ht
    · rw [hn] at ht
      exact none_ ht

def w__law_long_word_1 : WS := (wRet (wBin fAdd (wC (PyData.str "a")) (wCall (fs__law_letters) (wCons (wVar 0) (wCons (wBor 1) (wCons (wC (PyData.int 39)) (wCons (wVar 2) wNil)))))))
def w__law_long_word : WS := (wSeq (wIfS (wB (wBin fGt (wCall (fs__law_take) (wCons (wVar 0) (wCons (wBor 1) (wCons (wC (PyData.int 3)) wNil)))) (wC (PyData.int 0)))) (wRet (wSl fSl (wC (PyData.str "aZ_")) wNone (wSome (wBin fAdd (wC (PyData.int 1)) (wCall (fs__law_take) (wCons (wVar 0) (wCons (wBor 1) (wCons (wC (PyData.int 3)) wNil)))))))) wNext) w__law_long_word_1)

/-- a drawn long word: a, and up to 39 signs -/
def fs__law_long_word : FS := fun as Q _ => ∃ (row : List Int) (k : Int) (signs : Str), as = [.v (.list (row.map .int)), .cell [.int k], .v (.str signs)] ∧ 0 < row.length ∧ 0 ≤ k ∧ 0 < signs.length ∧ signs.length ≤ 1000 ∧
  ∀ (t : List Nat) (k' : Int), 0 ≤ k' → t.length ≤ 39 → (∀ c ∈ t, c = 90 ∨ c = 95 ∨ c ∈ signs.cps.toList) → Q (.d (.str (ofL (97 :: t)))) [[.int k']]
theorem l__law_long_word : ∀ as Q X, fs__law_long_word as Q X → as.length = 3 := by rintro as Q X ⟨_, _, _, rfl, _⟩; rfl
theorem m__law_long_word : ∀ as Q X, fs__law_long_word as Q X → w__law_long_word (as ++ List.replicate 0 Sl.no) (endP 3 Q X) := by
  rintro as Q X ⟨row, k, signs, rfl, hr, hk, hs, hs2, h⟩
  dsimp! only [w__law_long_word, fs__law_take]
  refine ⟨row, k, _, ⟨rfl, rfl, rfl⟩, hr, hk, by decide, fun r0 h00 h01 => ?_⟩
  split
  · refine ⟨row, _, _, ⟨rfl, rfl, rfl⟩, hr, by omega, by decide, fun r h0 h1 => ⟨by decide +kernel, ?_⟩⟩
    have e0 : cutS (Str.ofString "aZ_") none (some (1 + 0)) = ofL [97] := by decide +kernel
    have e1 : cutS (Str.ofString "aZ_") none (some (1 + 1)) = ofL [97, 90] := by decide +kernel
    have e2 : cutS (Str.ofString "aZ_") none (some (1 + 2)) = ofL [97, 90, 95] := by decide +kernel
    obtain rfl | rfl | rfl : r = 0 ∨ r = 1 ∨ r = 2 := by omega
    · rw [e0]; exact h [] _ (by omega) (by simp) (by simp)
    · rw [e1]; exact h [90] _ (by omega) (by simp) (by simp)
    · rw [e2]; exact h [90, 95] _ (by omega) (by simp) (by simp)
  · dsimp! only [w__law_long_word_1, fs__law_letters]
    refine ⟨row, _, _, signs, ⟨rfl, rfl, rfl, rfl⟩, hr, by omega, by omega, by omega, hs, by omega, fun cs k' hk' hl hc => ?_⟩
    have e : Str.ofString "a" ++ (⟨cs.toArray⟩ : Str) = ofL (97 :: cs) := by
      have e2 : Str.ofString "a" = ofL [97] := by decide +kernel
      rw [e2, show (⟨cs.toArray⟩ : Str) = ofL cs from rfl, ofL_append]
      rfl
    have l1 : (Str.ofString "a").length = 1 := by decide +kernel
    have l2 : (⟨cs.toArray⟩ : Str).length = cs.length := ofL_len cs
    refine ⟨Nat.le_trans (show _ ≤ 1000 by omega) (by decide), ?_⟩
    rw [e]
    exact h cs k' hk' (by omega) fun c hc' => .inr (.inr (hc c hc'))

def w__law_wrong_word_1 : WS := (wRet (wBin fAdd (wBin fAdd (wSl fSl (wBor 2) wNone (wSome (wVar 8))) (wBor 9)) (wSl fSl (wBor 2) (wSome (wVar 8)) (wSome (wC (PyData.int 39))))))
def w__law_wrong_word_2 : WS := (wSeq (wSet (wBin fIx (wBor 5) (wCall (fs__law_take) (wCons (wVar 0) (wCons (wBor 1) (wCons (wPrim fLen (wCons (wBor 5) wNil)) wNil))))) 9) w__law_wrong_word_1)
def w__law_wrong_word_3 : WS := (wSeq (wSet (wCall (fs__law_take) (wCons (wVar 0) (wCons (wBor 1) (wCons (wBin fAdd (wPrim fLen (wCons (wBor 2) wNil)) (wC (PyData.int 1))) wNil)))) 8) w__law_wrong_word_2)
def w__law_wrong_word_4 : WS := (wSeq (wIfS (wB (wBin fEq (wBor 6) (wC (PyData.int 2)))) (wRet (wIf (wB (wBin fEq (wBor 3) (wC (PyData.str "item")))) (wBin fAdd (wSl fSl (wBor 2) wNone (wSome (wC (PyData.int 39)))) (wC (PyData.str "."))) (wC (PyData.str "not")))) wNext) w__law_wrong_word_3)
def w__law_wrong_word_5 : WS := (wSeq (wIfS (wAndT (wB (wBin fEq (wBor 6) (wC (PyData.int 2)))) (wB (wBin (fIn false) (wBor 3) (wLst (wCons (wC (PyData.str "plain")) (wCons (wC (PyData.str "section")) wNil)))))) (wRet (wBin fAdd (wC (PyData.str "9")) (wSl fSl (wBor 2) (wSome (wC (PyData.int 1))) wNone))) wNext) w__law_wrong_word_4)
def w__law_wrong_word_6 : WS := (wSeq (wIfS (wAndT (wB (wBin fEq (wBor 6) (wC (PyData.int 2)))) (wB (wBin fEq (wBor 3) (wC (PyData.str "key"))))) (wRet (wBin fIx (wLst (wCons (wC (PyData.str "unset")) (wCons (wC (PyData.str "lock")) (wCons (wC (PyData.str "when")) (wCons (wC (PyData.str "end")) wNil))))) (wCall (fs__law_take) (wCons (wVar 0) (wCons (wBor 1) (wCons (wC (PyData.int 4)) wNil)))))) wNext) w__law_wrong_word_5)
def w__law_wrong_word_7 : WS := (wSeq (wIfS (wB (wBin fEq (wBor 6) (wC (PyData.int 1)))) (wRet (wC (PyData.str ""))) wNext) w__law_wrong_word_6)
def w__law_wrong_word_8 : WS := (wSeq (wIfS (wB (wBin fEq (wBor 6) (wC (PyData.int 0)))) (wRet (wBin fAdd (wBor 2) (wM1 fJoin (wC (PyData.str "")) (wLc (wRng1 (wCons (wBin fSub (wC (PyData.int 41)) (wPrim fLen (wCons (wBor 2) wNil))) wNil)) (.n 7) wYes (wC (PyData.str "b")) [7])))) wNext) w__law_wrong_word_7)
def w__law_wrong_word_9 : WS := (wSeq (wSet (wCall (fs__law_take) (wCons (wVar 0) (wCons (wBor 1) (wCons (wC (PyData.int 6)) wNil)))) 6) w__law_wrong_word_8)
def w__law_wrong_word_10 : WS := (wSeq (wSet (wIf (wB (wBin fEq (wBor 3) (wC (PyData.str "key")))) (wRepl 1 "#" "" (wDget (wBor 4) (wC (PyData.str "plain")))) (wDget (wBor 4) (wVar 3))) 5) w__law_wrong_word_9)
def w__law_wrong_word : WS := (wSeq (wSet (wDisp [("plain", " !\"#$&'()*+,-./:;<=>?\x40[\\]^`{|}~"), ("section", " !\"#$&'()*+,-/:;<=>?\x40[\\]^`{|}~"), ("value", " !\"$&'()*+,.:;<=>?\x40[\\]^`{|}~"), ("item", " !\"$&'()*+,;<=>?[\\]^`{|}~")]) 4) w__law_wrong_word_10)

theorem glue_fold (g : Str) : ∀ (l : List Str) (a : Array Nat), (l.foldl (fun acc p => acc ++ g.cps ++ p.cps) a).toList = a.toList ++ l.flatMap fun p => g.cps.toList ++ p.cps.toList
  | [], a => by simp
  | p :: l, a => by
    rw [List.foldl_cons, glue_fold g l]
    simp
theorem sum_len {n : Nat} : ∀ {ys : List Str}, (∀ s ∈ ys, s.length ≤ n) → (ys.map (·.length)).sum ≤ n * ys.length
  | [], _ => by simp
  | y :: ys, h => by
    have h1 := h y (by simp)
    have h2 := sum_len (ys := ys) fun s hs => h s (List.mem_cons_of_mem _ hs)
    simp only [List.map_cons, List.sum_cons, List.length_cons, Nat.mul_succ]
    omega

/-! printed lines, read -/
theorem partL_one {c : Nat} : ∀ {a : List Nat} (b : List Nat), c ∉ a → partL [c] (a ++ c :: b) = (a, true, b)
  | [], b, _ => partL_hit (by simp) b
  | x :: a, b, h => by
    simp only [List.mem_cons, not_or] at h
    rw [List.cons_append, partL_skip (by
      cases e : pre [c] (x :: (a ++ c :: b)) with
      | false => rfl
      | true =>
        have := pre_iff.mp e
        simp at this
        exact absurd this.symm h.1), partL_one b h.2]
theorem partL_free {c : Nat} : ∀ {a : List Nat}, c ∉ a → partL [c] a = (a, false, [])
  | [], _ => rfl
  | x :: a, h => by
    simp only [List.mem_cons, not_or] at h
    rw [partL_skip (by
      cases e : pre [c] (x :: a) with
      | false => rfl
      | true =>
        have := pre_iff.mp e
        simp at this
        exact absurd this.symm h.1), partL_free h.2]
theorem pre_head {c x : Nat} {s l : List Nat} (h : ¬ x = c) : pre (c :: s) (x :: l) = false := by
  cases e : pre (c :: s) (x :: l) with
  | false => rfl
  | true =>
    have := pre_iff.mp e
    simp at this
    exact absurd this.1 h
theorem partL_app {c : Nat} {s : List Nat} : ∀ {a : List Nat} (b : List Nat), c ∉ a → partL (c :: s) (a ++ ((c :: s) ++ b)) = (a, true, b)
  | [], b, _ => partL_hit (by simp) b
  | x :: a, b, h => by
    simp only [List.mem_cons, not_or] at h
    rw [List.cons_append, partL_skip (pre_head fun z => h.1 z.symm), partL_app b h.2]
theorem splL_free {c : Nat} {s : List Nat} : ∀ {a : List Nat}, c ∉ a → splL (c :: s) a = [a]
  | [], _ => rfl
  | x :: a, h => by
    simp only [List.mem_cons, not_or] at h
    exact splL_skip (pre_head fun z => h.1 z.symm) (splL_free h.2)
theorem splL_app {c : Nat} {s : List Nat} : ∀ {a : List Nat} (b : List Nat), c ∉ a → splL (c :: s) (a ++ ((c :: s) ++ b)) = a :: splL (c :: s) b
  | [], b, _ => splL_hit (by simp) b
  | x :: a, b, h => by
    simp only [List.mem_cons, not_or] at h
    rw [List.cons_append]
    exact splL_skip (pre_head fun z => h.1 z.symm) (splL_app b h.2)
/-- joined -/
def glue (s : List Nat) : List (List Nat) → List Nat
  | [] => []
  | [p] => p
  | p :: q :: r => p ++ (s ++ glue s (q :: r))
theorem splL_glue {c : Nat} {s : List Nat} : ∀ {ps : List (List Nat)}, ps ≠ [] → (∀ p ∈ ps, c ∉ p) → splL (c :: s) (glue (c :: s) ps) = ps
  | [], h, _ => absurd rfl h
  | [p], _, h => splL_free (h p (by simp))
  | p :: q :: r, _, h => by
    rw [glue, splL_app _ (h p (by simp)), splL_glue (by simp) fun x hx => h x (List.mem_cons_of_mem _ hx)]
theorem glue_flat (s : List Nat) (p : List Nat) : ∀ r : List (List Nat), glue s (p :: r) = p ++ r.flatMap fun q => s ++ q
  | [] => by simp [glue]
  | q :: r => by
    rw [glue, glue_flat s q r]
    simp
theorem join_glue (s : String) : ∀ ps : List (List Nat), Txt.join (Str.ofString s) (ps.map ofL) = ofL (glue (cs s) ps)
  | [] => by show Txt.join _ [] = ofL []; rfl
  | p :: r => by
    refine str_ext ?_
    rw [ofL_l, glue_flat]
    show ((r.map ofL).foldl (fun acc q => acc ++ (Str.ofString s).cps ++ q.cps) (ofL p).cps).toList = _
    rw [glue_fold, ofL_l]
    congr 1
    induction r with
    | nil => rfl
    | cons q r ih =>
      simp only [List.map_cons, List.flatMap_cons, ih, ofL_l]
      rfl
theorem glue_mem {x : Nat} {s : List Nat} : ∀ {ps : List (List Nat)}, x ∈ glue s ps → x ∈ s ∨ ∃ p ∈ ps, x ∈ p
  | [], h => by simp [glue] at h
  | [p], h => .inr ⟨p, by simp, by simpa [glue] using h⟩
  | p :: q :: r, h => by
    rw [glue] at h
    rcases List.mem_append.mp h with h | h
    · exact .inr ⟨p, by simp, h⟩
    · rcases List.mem_append.mp h with h | h
      · exact .inl h
      · rcases glue_mem h with h | ⟨y, hy, hx⟩
        · exact .inl h
        · exact .inr ⟨y, List.mem_cons_of_mem _ hy, hx⟩
theorem glue_len (s : List Nat) : ∀ ps : List (List Nat), (glue s ps).length ≤ (ps.map (·.length)).sum + ps.length * s.length
  | [] => by simp [glue]
  | [p] => by simp [glue]
  | p :: q :: r => by
    have := glue_len s (q :: r)
    rw [glue]
    simp only [List.length_append, List.length_cons, List.map_cons, List.sum_cons, Nat.succ_mul] at this ⊢
    omega
/-- a body that stands alone on its line -/
structure Plain (b : List Nat) : Prop where
  hash : 35 ∉ b
  nl : 10 ∉ b
  head : b.head? ≠ some 32
  last : b.getLast? ≠ some 32
  ne : b ≠ []
  codes : ∀ c ∈ b, c < 0x110000
theorem lstL_no {c : Nat} {b : List Nat} (h : b.head? ≠ some c) : lstL c b = b := by
  cases b with
  | nil => rfl
  | cons x r =>
    unfold lstL
    have hx : (x == c) = false := by
      cases q : (x == c) with
      | false => rfl
      | true =>
        rw [beq_iff_eq] at q
        exact absurd (by rw [← q]; rfl) h
    rw [List.dropWhile_cons, hx]
    rfl
theorem lstL_sp {c : Nat} {b : List Nat} (h : b.head? ≠ some c) : ∀ n : Nat, lstL c (List.replicate n c ++ b) = b
  | 0 => lstL_no h
  | n + 1 => by
    unfold lstL
    rw [List.replicate_succ, List.cons_append, List.dropWhile_cons, beq_self_eq_true, if_pos rfl]
    exact lstL_sp h n
theorem rstL_sp {c : Nat} {b : List Nat} (h : b.getLast? ≠ some c) (n : Nat) : rstL c (b ++ List.replicate n c) = b := by
  unfold rstL
  rw [List.reverse_append, List.reverse_replicate, lstL_sp (by rw [List.head?_reverse]; exact h), List.reverse_reverse]
theorem body_plain {b : List Nat} (p : Plain b) (n : Nat) : bodyB (List.replicate n 32 ++ b) = toldB b := by
  have h : 35 ∉ List.replicate n 32 ++ b := by
    intro z
    rcases List.mem_append.mp z with z | z
    · have := List.eq_of_mem_replicate z
      omega
    · exact p.hash z
  unfold bodyB
  rw [partL_free h]
  simp only [Bool.false_eq_true, if_false]
  rw [lstL_sp p.head]
theorem body_note {b : List Nat} (p : Plain b) (n : Nat) (r : List Nat) : bodyB (b ++ (List.replicate n 32 ++ 35 :: r)) = toldB b := by
  have h : 35 ∉ b ++ List.replicate n 32 := by
    intro z
    rcases List.mem_append.mp z with z | z
    · exact p.hash z
    · have := List.eq_of_mem_replicate z
      omega
  unfold bodyB
  rw [← List.append_assoc, partL_one r h]
  simp only [if_true]
  rw [lstL_no (c := 32) (b := b ++ List.replicate n 32) (by
    have := p.head
    cases b with
    | nil => exact absurd rfl p.ne
    | cons x r => exact this), rstL_sp p.last]
/-! the printed bodies -/
theorem told_end : toldB (cs "end") = .fin := by
  unfold toldB
  rw [if_neg (by decide +kernel), if_pos rfl]
theorem plain_end : Plain (cs "end") := by
  have e : cs "end" = [101, 110, 100] := by decide +kernel
  rw [e]
  refine ⟨by decide, by decide, by decide, by decide, by decide, by decide⟩
def secLine (s : List Nat) : List Nat := 91 :: (s ++ [93])
theorem told_sec {s : List Nat} (h : s = [] ∨ isSectionS (ofL s) = true) : toldB (secLine s) = .sec s := by
  have e1 : secLine s ≠ cs "end" := by
    have e : cs "end" = [101, 110, 100] := by decide +kernel
    rw [e]
    intro z
    injection z with z1 z2
    omega
  have es : secOf (secLine s) = s := by
    unfold secOf secLine
    simp
  unfold toldB
  rw [if_neg (by simp [secLine]), if_neg e1, if_pos (show (secLine s).head? = some 91 from rfl)]
  unfold sectionB
  rw [es, if_pos]
  have h1 : lastIs 93 (secLine s) = true := by
    have e : ((91 :: s) ++ [93]).getLast? = some 93 := by simp only [List.getLast?_append, List.getLast?_singleton, Option.some_or]
    exact decide_eq_true e
  have h2 : decide (1 < (secLine s).length) = true := by
    unfold secLine
    simp
  rw [h1, h2, Bool.true_and, Bool.true_and]
  rcases h with h | h
  · rw [h]; simp
  · rw [h, Bool.or_true]
def whenLine (f : List Nat) (vs : List (List Nat)) (p : Bool) : List Nat := cs "when " ++ (f ++ (cs " is " ++ ((if p = true then [] else cs "not ") ++ glue (cs ", ") vs)))
structure CondOk (f : List Nat) (vs : List (List Nat)) : Prop where
  plain : isPlainS (ofL f) = true
  words : ∀ v ∈ vs, isWordS (ofL v) = true
  no : cs "not" ∉ vs
  nd : vs.Nodup
  ne : vs ≠ []
  fsp : 32 ∉ f
  vsp : ∀ v ∈ vs, 44 ∉ v
  first : ∀ v r, vs = v :: r → pre (cs "not ") v = false ∧ 110 ∉ v.head?
theorem isL_cs : cs " is " = [32, 105, 115, 32] := by decide +kernel
theorem csL_cs : cs ", " = [44, 32] := by decide +kernel
theorem notL_cs : cs "not " = [110, 111, 116, 32] := by decide +kernel
theorem whenL_cs : cs "when " = [119, 104, 101, 110, 32] := by decide +kernel
theorem when_cs : cs "when" = [119, 104, 101, 110] := by decide +kernel
theorem told_when {f : List Nat} {vs : List (List Nat)} (c : CondOk f vs) (p : Bool) : toldB (whenLine f vs p) = .wh f vs p := by
  have eh : whenLine f vs p = [119, 104, 101, 110] ++ 32 :: (f ++ (cs " is " ++ ((if p = true then [] else cs "not ") ++ glue (cs ", ") vs))) := by
    unfold whenLine
    rw [whenL_cs]
    rfl
  have e1 : whenLine f vs p ≠ cs "end" := by
    have e : cs "end" = [101, 110, 100] := by decide +kernel
    rw [e, eh]
    intro z
    injection z with z1 z2
    omega
  have ep : partL [32] (whenLine f vs p) = (cs "when", true, f ++ (cs " is " ++ ((if p = true then [] else cs "not ") ++ glue (cs ", ") vs))) := by
    rw [eh, partL_one _ (by decide), when_cs]
  have ed : (whenLine f vs p).drop 5 = f ++ (cs " is " ++ ((if p = true then [] else cs "not ") ++ glue (cs ", ") vs)) := by rw [eh]; rfl
  have ep2 : partL (cs " is ") ((whenLine f vs p).drop 5) = (f, true, (if p = true then [] else cs "not ") ++ glue (cs ", ") vs) := by
    rw [ed, isL_cs, partL_app _ c.fsp]
  unfold toldB
  rw [if_neg (by rw [eh]; simp), if_neg e1, if_neg (by rw [eh]; simp), ep, if_pos rfl]
  unfold whenB
  rw [ep2]
  have hsp : splL (cs ", ") (glue (cs ", ") vs) = vs := by rw [csL_cs]; exact splL_glue c.ne c.vsp
  have hpos : posOf ((if p = true then [] else cs "not ") ++ glue (cs ", ") vs) = p := by
    unfold posOf
    cases p with
    | false =>
      rw [if_neg (by simp), pre_app]
      rfl
    | true =>
      rw [if_pos rfl, List.nil_append]
      have : pre (cs "not ") (glue (cs ", ") vs) = false := by
        cases vs with
        | nil => exact absurd rfl c.ne
        | cons v r =>
          obtain ⟨q1, q2⟩ := c.first v r rfl
          rw [glue_flat]
          cases v with
          | nil =>
            exact absurd (c.words [] (by simp)) (by decide +kernel)
          | cons x v =>
            rw [notL_cs, List.cons_append]
            refine pre_head fun z => q2 ?_
            rw [z]
            simp
      rw [this]
      rfl
  have hrest : restOf ((if p = true then [] else cs "not ") ++ glue (cs ", ") vs) = glue (cs ", ") vs := by
    unfold restOf
    rw [hpos]
    cases p with
    | false =>
      rw [if_neg (by simp), if_neg (by simp), notL_cs]
      rfl
    | true => rw [if_pos rfl, if_pos rfl, List.nil_append]
  show whenBody f (splL (cs ", ") (restOf ((if p = true then [] else cs "not ") ++ glue (cs ", ") vs))) (posOf ((if p = true then [] else cs "not ") ++ glue (cs ", ") vs)) = _
  rw [hpos, hrest, hsp]
  unfold whenBody
  rw [if_pos]
  rw [c.plain, Bool.true_and, Bool.and_eq_true, Bool.and_eq_true]
  exact ⟨List.all_eq_true.mpr c.words, by rw [decide_eq_false c.no]; rfl, decide_eq_true c.nd⟩
/-- the line of a statement -/
def signOf (w : Str) : Str := (([("set", "="), ("append", "+="), ("prepend", "^="), ("drop", "-="), ("default", "?=")] : List (Str × Str)).lookup w).getD ""
def stLine (w : Str) (key : List Nat) (items : List (List Nat)) : List Nat :=
  if w = "unset" ∨ w = "lock" then w.cps.toList ++ 32 :: key else key ++ 32 :: ((signOf w).cps.toList ++ (if items = [] then [] else 32 :: glue (cs ", ") items))
structure StOk (w : Str) (key : List Nat) (items : List (List Nat)) : Prop where
  keyOk : isKeyS (ofL key) = true
  ksp : 32 ∉ key
  khd : key.head? ≠ some 91
  kne : key ≠ []
  itemsOk : ∀ i ∈ items, isItemS (ofL i) = true
  isp : ∀ i ∈ items, 44 ∉ i
  wordOk : (w = "unset" ∨ w = "lock") ∧ items = [] ∨ (w = "set" ∨ w = "default") ∨ (w = "append" ∨ w = "prepend" ∨ w = "drop") ∧ items ≠ []
theorem key_not {key : List Nat} (h : isKeyS (ofL key) = true) (s : String) (hs : Str.ofString s ∈ reservedL) : key ≠ cs s := by
  intro z
  unfold isKeyS at h
  rw [Bool.and_eq_true, decide_eq_true_eq] at h
  exact h.2 (by rw [z, ofL_cs]; exact hs)
theorem told_bare {key : List Nat} (h : isKeyS (ofL key) = true) (s : String) (hs : s = "unset" ∨ s = "lock") : toldB ((Str.ofString s).cps.toList ++ 32 :: key) = .st key (Str.ofString s) [] := by
  have main : ∀ t : List Nat, cs s = t → 32 ∉ t → t ≠ [] → t.head? ≠ some 91 → t ≠ cs "when" → toldB (cs s ++ 32 :: key) = .st key (Str.ofString s) [] := by
    intro t ht h32 hne h91 hw
    have ep : partL [32] (cs s ++ 32 :: key) = (cs s, true, key) := partL_one key (by rw [ht]; exact h32)
    have e1 : cs s ++ 32 :: key ≠ cs "end" := by
      have e : cs "end" = [101, 110, 100] := by decide +kernel
      rw [e]
      intro z
      have : (32 : Nat) ∈ [101, 110, 100] := by rw [← z]; simp
      revert this
      decide
    unfold toldB
    rw [if_neg (by simp), if_neg e1, if_neg (by
      rw [ht]
      cases t with
      | nil => exact absurd rfl hne
      | cons a r => exact h91), ep, if_neg (by rw [ht]; exact hw), if_pos (by rcases hs with rfl | rfl <;> simp), if_pos h]
    rw [show (cs s, true, key).1 = cs s from rfl, ofL_cs]
  rcases hs with rfl | rfl
  · exact main [117, 110, 115, 101, 116] (by decide +kernel) (by decide) (by decide) (by decide) (by decide +kernel)
  · exact main [108, 111, 99, 107] (by decide +kernel) (by decide) (by decide) (by decide) (by decide +kernel)
theorem told_full {w : Str} {key : List Nat} {items : List (List Nat)} (hk : isKeyS (ofL key) = true) (ksp : 32 ∉ key) (khd : key.head? ≠ some 91) (kne : key ≠ []) (hi : ∀ i ∈ items, isItemS (ofL i) = true) (isp : ∀ i ∈ items, 44 ∉ i)
    (s : List Nat) (hs : s = (signOf w).cps.toList) (s32 : 32 ∉ s) (hw : wordOf (ofL s) = some w) (hemp : items = [] → (ofL s = "=" ∨ ofL s = "?=")) :
    toldB (key ++ 32 :: (s ++ (if items = [] then [] else 32 :: glue (cs ", ") items))) = .st key w items := by
  have ep : partL [32] (key ++ 32 :: (s ++ (if items = [] then [] else 32 :: glue (cs ", ") items))) = (key, true, s ++ (if items = [] then [] else 32 :: glue (cs ", ") items)) := partL_one _ ksp
  have e1 : key ++ 32 :: (s ++ (if items = [] then [] else 32 :: glue (cs ", ") items)) ≠ cs "end" := by
    have e : cs "end" = [101, 110, 100] := by decide +kernel
    rw [e]
    intro z
    have : (32 : Nat) ∈ [101, 110, 100] := by rw [← z]; simp
    revert this
    decide
  unfold toldB
  rw [if_neg (by simp), if_neg e1, if_neg (by
    cases key with
    | nil => exact absurd rfl kne
    | cons a r => exact khd), ep, if_neg (key_not hk "when" (by decide +kernel)), if_neg (by
      rintro (z | z)
      · exact key_not hk "unset" (by decide +kernel) z
      · exact key_not hk "lock" (by decide +kernel) z)]
  unfold statementB
  rw [ep]
  show stBody key (ofL (partL [32] (s ++ (if items = [] then [] else 32 :: glue (cs ", ") items))).1) (itemsOf (partL [32] (s ++ (if items = [] then [] else 32 :: glue (cs ", ") items)))) = _
  have fin : stBody key (ofL s) items = .st key w items := by
    unfold stBody
    rw [hw]
    show (if _ then _ else _) = _
    rw [if_pos]
    rw [hk, Bool.true_and, Bool.and_eq_true]
    refine ⟨List.all_eq_true.mpr hi, ?_⟩
    by_cases he : items = []
    · have hd : (decide (ofL s = "=") || decide (ofL s = "?=")) = true := by
        rcases hemp he with z | z
        · rw [decide_eq_true z]; rfl
        · rw [decide_eq_true z, Bool.or_true]
      rw [hd]
      simp
    · rw [decide_eq_false he]
      rfl
  by_cases he : items = []
  · rw [if_pos he, List.append_nil, partL_free s32]
    show stBody key (ofL s) (itemsOf (s, false, [])) = _
    have : itemsOf (s, false, []) = items := by rw [he]; rfl
    rw [this]
    exact fin
  · rw [if_neg he, partL_one _ s32]
    show stBody key (ofL s) (itemsOf (s, true, glue (cs ", ") items)) = _
    have : itemsOf (s, true, glue (cs ", ") items) = items := by
      show splL (cs ", ") (glue (cs ", ") items) = items
      rw [csL_cs]
      exact splL_glue he isp
    rw [this]
    exact fin
theorem told_st {w : Str} {key : List Nat} {items : List (List Nat)} (o : StOk w key items) : toldB (stLine w key items) = .st key w items := by
  unfold stLine
  have hsign : ∀ (a b : String), w = Str.ofString a → (signOf (Str.ofString a)).cps.toList = cs b → 32 ∉ cs b → wordOf (ofL (cs b)) = some (Str.ofString a) → (items = [] → (ofL (cs b) = "=" ∨ ofL (cs b) = "?=")) → ¬ (w = "unset" ∨ w = "lock") →
      toldB (if w = "unset" ∨ w = "lock" then w.cps.toList ++ 32 :: key else key ++ 32 :: ((signOf w).cps.toList ++ (if items = [] then [] else 32 :: glue (cs ", ") items))) = .st key w items := by
    intro a b hw h1 h2 h3 h4 h5
    rw [if_neg h5]
    have := told_full (w := w) o.keyOk o.ksp o.khd o.kne o.itemsOk o.isp (cs b) (by rw [hw, h1]) h2 (by rw [h3, hw]) h4
    rw [hw, h1]
    rw [hw] at this
    exact this
  rcases o.wordOk with ⟨h | h, e⟩ | (h | h) | ⟨h | h | h, e⟩
  · subst e
    rw [if_pos (Or.inl h), h]
    exact told_bare o.keyOk "unset" (.inl rfl)
  · subst e
    rw [if_pos (Or.inr h), h]
    exact told_bare o.keyOk "lock" (.inr rfl)
  · exact hsign "set" "=" h (by decide +kernel) (by decide +kernel) (by decide +kernel) (fun _ => .inl (ofL_cs _)) (by rw [h]; decide +kernel)
  · exact hsign "default" "?=" h (by decide +kernel) (by decide +kernel) (by decide +kernel) (fun _ => .inr (ofL_cs _)) (by rw [h]; decide +kernel)
  · exact hsign "append" "+=" h (by decide +kernel) (by decide +kernel) (by decide +kernel) (fun z => absurd z e) (by rw [h]; decide +kernel)
  · exact hsign "prepend" "^=" h (by decide +kernel) (by decide +kernel) (by decide +kernel) (fun z => absurd z e) (by rw [h]; decide +kernel)
  · exact hsign "drop" "-=" h (by decide +kernel) (by decide +kernel) (by decide +kernel) (fun z => absurd z e) (by rw [h]; decide +kernel)

/-! texts of lines -/
/-- codes of a text that is drawn -/
def codesOk (l : List Nat) : Prop := 10 ∉ l ∧ (∀ c ∈ l, c < 0x110000) ∧ l.length ≤ 2500
/-- the lines as a text -/
def textL (L : List (List Nat)) : List Nat := L.flatMap fun l => l ++ [10]
theorem glue_nil : ∀ ps : List (List Nat), glue [] ps = ps.flatten
  | [] => rfl
  | [p] => by simp [glue]
  | p :: q :: r => by
    rw [glue, glue_nil (q :: r)]
    simp
theorem lines_text : ∀ {L : List (List Nat)}, (∀ l ∈ L, 10 ∉ l) → splL [10] (textL L) = L ++ [[]]
  | [], _ => rfl
  | l :: r, h => by
    have e : textL (l :: r) = l ++ ([10] ++ textL r) := by simp [textL]
    rw [e, splL_app _ (h l (by simp)), lines_text fun x hx => h x (List.mem_cons_of_mem _ hx)]
    rfl
theorem linesL_text {L : List (List Nat)} (h : ∀ l ∈ L, 10 ∉ l) : linesL (textL L) = L := by
  unfold linesL
  rw [lines_text h, if_pos (by simp), List.dropLast_concat]
theorem textL_len {L : List (List Nat)} (h : ∀ l ∈ L, l.length ≤ 2500) : (textL L).length ≤ 2501 * L.length := by
  induction L with
  | nil => simp [textL]
  | cons l r ih =>
    have h1 := h l (by simp)
    have h2 := ih fun x hx => h x (List.mem_cons_of_mem _ hx)
    have e : textL (l :: r) = l ++ ([10] ++ textL r) := by simp [textL]
    rw [e]
    simp only [List.length_append, List.length_cons, List.length_nil, Nat.mul_succ]
    omega
theorem textL_codes {L : List (List Nat)} (h : ∀ l ∈ L, codesOk l) : ∀ c ∈ textL L, c < 0x110000 := by
  intro c hc
  unfold textL at hc
  obtain ⟨l, hl, hc⟩ := List.mem_flatMap.mp hc
  rcases List.mem_append.mp hc with z | z
  · exact (h l hl).2.1 c z
  · rw [List.mem_singleton] at z; omega
theorem ends_text : ∀ {L : List (List Nat)}, L ≠ [] → endsL [10] (textL L) = true := by
  intro L h
  obtain ⟨R, l, e⟩ : ∃ R l, L = R ++ [l] := ⟨L.dropLast, L.getLast h, (List.dropLast_concat_getLast h).symm⟩
  subst e
  have e : textL (R ++ [l]) = (textL R ++ l) ++ [10] := by simp [textL]
  rw [e]
  unfold endsL
  rw [Bool.and_eq_true, decide_eq_true_eq]
  refine ⟨by simp; omega, ?_⟩
  have : ((textL R ++ l) ++ [10]).drop (((textL R ++ l) ++ [10]).length - [10].length) = [10] := by
    rw [List.drop_append_of_le_length (by simp)]
    simp
  rw [this]
  rfl
theorem textL_app (a b : List (List Nat)) : textL a ++ textL b = textL (a ++ b) := by simp [textL]

theorem stack_ok {ys : List (List Nat)} (h1 : ys.length ≤ 40) (h2 : (ys.map fun l => (linesL l).length).sum ≤ 2000) (h3 : ∀ l ∈ ys, firstBad l = .none) : stackX ys = none := by
  unfold stackX
  rw [if_neg (by omega), if_neg (by omega)]
  exact badLayer_none ys 0 h3
theorem scanB_app : ∀ (a b : List Body) (k : Nat) (s : List Int × List Int), scanB k s (a ++ b) = scanB (k + a.length) (scanB k s a) b
  | [], b, k, s => rfl
  | x :: a, b, k, s => by
    rw [List.cons_append, scanB, scanB_app a b (k + 1), scanB]
    simp only [List.length_cons]
    rw [show k + 1 + a.length = k + (a.length + 1) by omega]
theorem scanB_pre : ∀ (bs : List Body) (k : Nat) (B wh : List Int), ∃ X W, scanB k (B, wh) bs = (B ++ X, W)
  | [], k, B, wh => ⟨[], wh, by simp [scanB]⟩
  | b :: r, k, B, wh => by
    rw [scanB]
    have key : ∃ Y W, badStep k (B, wh) b = (B ++ Y, W) := by
      cases b with
      | no => exact ⟨_, _, rfl⟩
      | wh f vs p =>
        simp only [badStep]
        split
        · exact ⟨_, _, rfl⟩
        · exact ⟨[], wh ++ [(k : Int)], by simp⟩
      | fin =>
        simp only [badStep]
        split
        · exact ⟨[], wh.dropLast, by simp⟩
        · exact ⟨_, _, rfl⟩
      | nothing => exact ⟨[], wh, by simp [badStep]⟩
      | sec s => exact ⟨[], wh, by simp [badStep]⟩
      | st k w i => exact ⟨[], wh, by simp [badStep]⟩
    obtain ⟨Y, W, e⟩ := key
    obtain ⟨X, W2, e2⟩ := scanB_pre r (k + 1) (B ++ Y) W
    exact ⟨Y ++ X, W2, by rw [e, e2, List.append_assoc]⟩
theorem scanB_ne {bs : List Body} {k : Nat} {B wh : List Int} {x : Int} (h : (scanB k (B ++ [x], wh) bs).1 = B) : False := by
  obtain ⟨X, W, e⟩ := scanB_pre bs k (B ++ [x]) wh
  rw [e] at h
  have := congrArg List.length h
  simp at this
theorem scanB_sim : ∀ (bs : List Body) (k k' : Nat) (B B' wh wh' : List Int), wh.length = wh'.length → (scanB k (B, wh) bs).1 = B → (scanB k' (B', wh') bs).1 = B' ∧ (scanB k' (B', wh') bs).2.length = (scanB k (B, wh) bs).2.length
  | [], k, k', B, B', wh, wh', hl, _ => ⟨rfl, hl.symm⟩
  | b :: r, k, k', B, B', wh, wh', hl, h => by
    rw [scanB] at h ⊢
    rw [scanB]
    cases b with
    | no => exact (scanB_ne h).elim
    | wh f vs p =>
      simp only [badStep] at h ⊢
      by_cases c : 20 < wh.length + 1
      · rw [if_pos c] at h
        exact (scanB_ne h).elim
      · rw [if_neg c] at h ⊢
        rw [if_neg (by omega)]
        exact scanB_sim r _ _ _ _ _ _ (by simp [hl]) h
    | fin =>
      simp only [badStep] at h ⊢
      by_cases c : 0 < wh.length
      · rw [if_pos c] at h ⊢
        rw [if_pos (by omega)]
        exact scanB_sim r _ _ _ _ _ _ (by simp [hl]) h
      · rw [if_neg c] at h
        exact (scanB_ne h).elim
    | nothing => exact scanB_sim r _ _ _ _ _ _ hl h
    | sec s => exact scanB_sim r _ _ _ _ _ _ hl h
    | st k w i => exact scanB_sim r _ _ _ _ _ _ hl h
/-- a wrong line put between right ones -/
theorem scan_insert {bs : List Body} (h : scanB 0 ([], []) bs = ([], [])) {at_ : Nat} (ha : at_ ≤ bs.length) : scanB 0 ([], []) (bs.take at_ ++ [.no] ++ bs.drop at_) = ([((at_ : Nat) : Int)], []) := by
  have e := scanB_app (bs.take at_) (bs.drop at_) 0 ([], [])
  rw [List.take_append_drop, h] at e
  obtain ⟨X, W, e1⟩ := scanB_pre (bs.take at_) 0 [] []
  have hl : (bs.take at_).length = at_ := by rw [List.length_take]; omega
  rw [e1, hl, Nat.zero_add, List.nil_append] at e
  obtain ⟨Y, W2, e2⟩ := scanB_pre (bs.drop at_) at_ X W
  have hX : X = [] := by
    rw [e2] at e
    have := congrArg (fun p : List Int × List Int => p.1.length) e
    simp only [List.length_nil, List.length_append] at this
    exact List.length_eq_zero_iff.mp (by omega)
  subst hX
  have hs := scanB_sim (bs.drop at_) at_ (at_ + 1) [] [((at_ : Nat) : Int)] W W rfl (by rw [← e])
  rw [← e] at hs
  rw [scanB_app, scanB_app, e1, List.length_append, hl]
  show scanB _ ([] ++ [] ++ [((0 + at_ : Nat) : Int)], W) _ = _
  simp only [List.nil_append, Nat.zero_add, List.length_singleton]
  exact Prod.ext hs.1 (List.length_eq_zero_iff.mp hs.2)
theorem bodies_rows {W : List (List Nat)} (h10 : ∀ l ∈ W, 10 ∉ l) : bodiesL (textL W) = W.map bodyB := by unfold bodiesL; rw [linesL_text h10]
theorem first_rows {W : List (List Nat)} (h10 : ∀ l ∈ W, 10 ∉ l) : firstBad (textL W) = minN ((scanB 0 ([], []) (W.map bodyB)).1 ++ (scanB 0 ([], []) (W.map bodyB)).2) := by
  unfold firstBad badOf
  rw [bodies_rows h10]
  have : (!decide (textL W = []) && !endsL [10] (textL W)) = false := by
    by_cases h0 : W = []
    · subst h0; rfl
    · rw [ends_text h0]
      simp
  rw [this]
  rfl
theorem lines_open {t : List Nat} (ht : 10 ∉ t) : ∀ {W : List (List Nat)}, (∀ l ∈ W, 10 ∉ l) → splL [10] (textL W ++ t) = W ++ [t]
  | [], _ => splL_free ht
  | l :: r, h => by
    have e : textL (l :: r) ++ t = l ++ ([10] ++ (textL r ++ t)) := by simp [textL]
    rw [e, splL_app _ (h l (by simp)), lines_open ht fun x hx => h x (List.mem_cons_of_mem _ hx)]
    rfl
theorem linesL_open {W : List (List Nat)} {t : List Nat} (h10 : ∀ l ∈ W, 10 ∉ l) (ht : 10 ∉ t) (hne : t ≠ []) : linesL (textL W ++ t) = W ++ [t] := by
  unfold linesL
  rw [lines_open ht h10, if_neg]
  simpa using hne
theorem first_open {W : List (List Nat)} {t : List Nat} (h10 : ∀ l ∈ W, 10 ∉ l) (ht : 10 ∉ t) (hne : t ≠ []) :
    firstBad (textL W ++ t) = minN ((scanB 0 ([], []) ((W ++ [t]).map bodyB)).1 ++ [((W.length : Nat) : Int)] ++ (scanB 0 ([], []) ((W ++ [t]).map bodyB)).2) := by
  have hb : bodiesL (textL W ++ t) = (W ++ [t]).map bodyB := by unfold bodiesL; rw [linesL_open h10 ht hne]
  unfold firstBad badOf
  rw [hb]
  have : (!decide (textL W ++ t = []) && !endsL [10] (textL W ++ t)) = true := by
    rw [Bool.and_eq_true]
    refine ⟨by simp [hne], ?_⟩
    rw [Bool.not_eq_true']
    cases hc : endsL [10] (textL W ++ t) with
    | false => rfl
    | true =>
      exfalso
      unfold endsL at hc
      rw [Bool.and_eq_true] at hc
      obtain ⟨t0, x, rfl⟩ : ∃ t0 x, t = t0 ++ [x] := ⟨t.dropLast, t.getLast hne, (List.dropLast_concat_getLast hne).symm⟩
      have e : (textL W ++ (t0 ++ [x])).drop ((textL W ++ (t0 ++ [x])).length - [10].length) = [x] := by
        rw [← List.append_assoc, List.length_append]
        rw [List.drop_append_of_le_length (by simp)]
        simp
      rw [e] at hc
      have hx : x = 10 := by
        have := hc.2
        simp [pre] at this
        omega
      exact ht (by rw [hx]; simp)
  rw [this]
  simp
/-! lines that are none -/
def isNoB : Body → Bool
  | .no => true
  | _ => false
theorem isNoB_eq {b : Body} (h : isNoB b = true) : b = .no := by
  cases b <;> first | rfl | cases h
theorem body_clean {l : List Nat} (h35 : 35 ∉ l) (hd : l.head? ≠ some 32) : bodyB l = toldB l := by
  unfold bodyB
  rw [partL_free h35]
  show toldB (if false = true then _ else lstL 32 l) = _
  rw [if_neg (by simp), lstL_no hd]

theorem textX_line {l : List Nat} {i : Int} (h : firstBad l = .int i) (hl : (linesL l).length ≤ 2000) : textX (codeD l) 1 = some (xLine 0 (.int i)) := by
  show stackX [(ofL l).cps.toList] = _
  rw [ofL_l]
  unfold stackX
  rw [if_neg (by simp), if_neg (by simp; omega)]
  exact badLayer_hit [] l [] i 0 (by simp) h
theorem textX_none {l : List Nat} (h : firstBad l = .none) (hl : (linesL l).length ≤ 2000) : textX (codeD l) 1 = none := by
  show stackX [(ofL l).cps.toList] = _
  rw [ofL_l]
  exact stack_ok (by simp) (by simp; omega) fun p hp => by rw [List.mem_singleton.mp hp]; exact h
theorem textX_many {l : List Nat} (hl : 2000 < (linesL l).length) : textX (codeD l) 1 = some (xMany "lines") := by
  show stackX [(ofL l).cps.toList] = _
  rw [ofL_l]
  unfold stackX
  rw [if_neg (by simp), if_pos (by simp; omega)]


structure KeyOk (key : List Nat) : Prop where
  ok : isKeyS (ofL key) = true
  sp : 32 ∉ key
  hd : key.head? ≠ some 91
  hd2 : key.head? ≠ some 32
  ne : key ≠ []
  h35 : 35 ∉ key
  h10 : 10 ∉ key
  h93 : 93 ∉ key
  codes : ∀ c ∈ key, c < 0x110000
  len : key.length ≤ 200
theorem told_open {key : List Nat} (K : KeyOk key) (r : List Nat) : toldB (key ++ 32 :: r) = stBody key (ofL (partL [32] r).1) (itemsOf (partL [32] r)) := by
  have ep : partL [32] (key ++ 32 :: r) = (key, true, r) := partL_one _ K.sp
  have e1 : key ++ 32 :: r ≠ cs "end" := by
    have e : cs "end" = [101, 110, 100] := by decide +kernel
    rw [e]
    intro z
    have : (32 : Nat) ∈ [101, 110, 100] := by rw [← z]; simp
    revert this
    decide
  unfold toldB
  rw [if_neg (by simp), if_neg e1, if_neg (by
    have := K.hd
    have hn := K.ne
    cases key with
    | nil => exact absurd rfl hn
    | cons a r => exact this), ep, if_neg (key_not K.ok "when" (by decide +kernel)), if_neg (by
      rintro (z | z)
      · exact key_not K.ok "unset" (by decide +kernel) z
      · exact key_not K.ok "lock" (by decide +kernel) z)]
  unfold statementB
  rw [ep]
def badRest (r : List Nat) : Bool := match wordOf (ofL (partL [32] r).1) with
  | none => true
  | some _ => !((itemsOf (partL [32] r)).all (fun i => isItemS (ofL i)) && !(decide (itemsOf (partL [32] r) = []) && !(decide (ofL (partL [32] r).1 = "=") || decide (ofL (partL [32] r).1 = "?="))))
theorem st_no {key r : List Nat} (h : badRest r = true) : stBody key (ofL (partL [32] r).1) (itemsOf (partL [32] r)) = .no := by
  unfold badRest at h
  unfold stBody
  cases e : wordOf (ofL (partL [32] r).1) with
  | none => rfl
  | some w =>
    rw [e] at h
    simp only [Bool.not_eq_true'] at h
    simp only
    rw [h, Bool.and_false]
    rfl
theorem open_no {key : List Nat} (K : KeyOk key) {r : List Nat} (h : badRest r = true) (h35 : 35 ∉ r) : bodyB (key ++ 32 :: r) = .no := by
  rw [body_clean (fun z => by
    rcases List.mem_append.mp z with a | a
    · exact K.h35 a
    · rcases List.mem_cons.mp a with b | b
      · cases b
      · exact h35 b) (by
    have := K.hd2
    have hn := K.ne
    cases key with
    | nil => exact absurd rfl hn
    | cons a r => exact this), told_open K, st_no h]

/-! lines with one word made wrong -/
/-- signs of the drawn words, by the kind -/
def sgK (kind : Str) : List Nat := if kind = "item" then cs "abZ_09-/:@." else if kind = "value" then cs "abZ_09-/" else cs "abZ_09"
/-- a right word: its signs, the last one q, the first one no figure -/
structure RW (kind : Str) (w : List Nat) : Prop where
  signs : ∀ c ∈ w, c = 113 ∨ c ∈ sgK kind
  len : w.length ≤ 40
  last : w.getLast? = some 113
  head : ∃ c r, w = c :: r ∧ (c = 97 ∨ c = 113)
theorem RW.ne {kind : Str} {w : List Nat} (h : RW kind w) : w ≠ [] := by
  obtain ⟨c, r, e, _⟩ := h.head
  rw [e]
  simp
theorem RW.code {kind : Str} {w : List Nat} (h : RW kind w) : ∀ c ∈ w, c = 113 ∨ c ∈ cs "abZ_09-/:@." := fun c hc => by
  have sub : ∀ k : Str, ∀ c ∈ sgK k, c ∈ cs "abZ_09-/:@." := fun k => by
    unfold sgK
    split
    · exact fun c hc => hc
    · split
      · decide +kernel
      · decide +kernel
  rcases h.signs c hc with z | z
  · exact .inl z
  · exact .inr (sub kind c z)
theorem RW.mono {k k' : Str} {w : List Nat} (h : RW k w) (e : ∀ c ∈ sgK k, c ∈ sgK k') : RW k' w := ⟨fun c hc => (h.signs c hc).imp id (e c), h.len, h.last, h.head⟩
theorem RW.lt {kind : Str} {w : List Nat} (h : RW kind w) : ∀ c ∈ w, c < 256 := fun c hc => by
  rcases h.code c hc with z | z
  · omega
  · have : ∀ c ∈ cs "abZ_09-/:@.", c < 256 := by decide +kernel
    exact this c z
theorem RW.free {kind : Str} {w : List Nat} (h : RW kind w) {x : Nat} (hx : x ≠ 113 ∧ x ∉ cs "abZ_09-/:@.") : x ∉ w := fun z => by
  rcases h.code x z with a | a
  · exact hx.1 a
  · exact hx.2 a
def plainKs : List Str := ["section", "plain", "key"]
theorem sgK_plain {kind : Str} (h : kind ∈ plainKs) : sgK kind = cs "abZ_09" := by
  simp only [plainKs, List.mem_cons, List.not_mem_nil, or_false] at h
  rcases h with rfl | rfl | rfl <;> decide +kernel
theorem RW.free2 {kind : Str} (hk : kind ∈ plainKs) {w : List Nat} (h : RW kind w) {x : Nat} (hx : x ≠ 113 ∧ x ∉ cs "abZ_09") : x ∉ w := fun z => by
  rcases h.signs x z with a | a
  · exact hx.1 a
  · rw [sgK_plain hk] at a; exact hx.2 a
theorem len_ofL (w : List Nat) : (ofL w).length = w.length := ofL_len w
theorem signs_ok {w : List Nat} {g : Str} (h1 : 1 ≤ w.length) (h2 : w.length ≤ 40) (h : ∀ c ∈ w, isLetterN c = true ∨ c ∈ g.cps.toList) : hasSignsS (ofL w) g = true := by
  unfold hasSignsS
  rw [len_ofL, decide_eq_true h1, decide_eq_true h2, ofL_l]
  simp only [Bool.and_self, Bool.true_and, List.all_eq_true, Bool.or_eq_true, decide_eq_true_eq]
  exact h
theorem RW.pos {kind : Str} {w : List Nat} (h : RW kind w) : 1 ≤ w.length := by
  obtain ⟨c, r, e, _⟩ := h.head
  rw [e]
  simp
theorem RW.plain {kind : Str} (hk : kind ∈ plainKs) {w : List Nat} (h : RW kind w) : isPlainS (ofL w) = true := by
  unfold isPlainS
  rw [signs_ok h.pos h.len fun c hc => by
    have hs : ∀ c ∈ cs "abZ_09", isLetterN c = true ∨ c ∈ (Str.ofString "_").cps.toList := by decide +kernel
    rcases h.signs c hc with z | z
    · exact .inl (by rw [z]; decide)
    · rw [sgK_plain hk] at z; exact hs c z, ofL_l, Bool.true_and]
  obtain ⟨c, r, e, h1⟩ := h.head
  rw [e]
  rcases h1 with rfl | rfl <;> rfl
theorem RW.key {w : List Nat} (h : RW "key" w) : isKeyS (ofL w) = true := by
  unfold isKeyS
  rw [h.plain (by simp [plainKs]), Bool.true_and, decide_eq_true_eq]
  intro z
  have bad : ∀ s : String, w = cs s → (cs s).getLast? ≠ some 113 → False := fun s e hn => hn (by rw [← e]; exact h.last)
  simp only [reservedL, List.mem_cons, List.not_mem_nil, or_false] at z
  have e : ∀ s : String, ofL w = Str.ofString s → w = cs s := fun s q => by rw [← ofL_cs] at q; exact ofL_inj q
  rcases z with z | z | z | z
  · exact bad _ (e _ z) (by decide +kernel)
  · exact bad _ (e _ z) (by decide +kernel)
  · exact bad _ (e _ z) (by decide +kernel)
  · exact bad _ (e _ z) (by decide +kernel)
theorem RW.word {w : List Nat} (h : RW "value" w) : isWordS (ofL w) = true := by
  refine signs_ok h.pos h.len fun c hc => ?_
  have hs : ∀ c ∈ sgK "value", isLetterN c = true ∨ c ∈ (Str.ofString "_-/").cps.toList := by decide +kernel
  rcases h.signs c hc with z | z
  · exact .inl (by rw [z]; decide)
  · exact hs c z
theorem RW.item {w : List Nat} (h : RW "item" w) : isItemS (ofL w) = true := by
  unfold isItemS
  rw [signs_ok h.pos h.len fun c hc => by
    have hs : ∀ c ∈ sgK "item", isLetterN c = true ∨ c ∈ itemSigns.cps.toList := by decide +kernel
    rcases h.signs c hc with z | z
    · exact .inl (by rw [z]; decide)
    · exact hs c z, ofL_l, h.last]
  rfl
/-! ### wrong words -/
/-- what makes a word wrong, by the kind of the word -/
structure WW (w : List Nat) : Prop where
  nl : 10 ∉ w
  codes : ∀ c ∈ w, c < 256
  len : w.length ≤ 41
def okG (c : Nat) : Prop := c = 113 ∨ c ∈ cs "abZ_09"
def WPlain (w : List Nat) : Prop := (∃ p q, w = p ++ 35 :: q ∧ ∀ c ∈ p, okG c) ∨ (isPlainS (ofL w) = false ∧ 35 ∉ w ∧ 105 ∉ w)
def WSec (w : List Nat) : Prop := (∃ p q, w = p ++ 35 :: q ∧ ∀ c ∈ p, okG c) ∨ (isPlainS (ofL w) = false ∧ 35 ∉ w ∧ 46 ∉ w)
def WVal (w : List Nat) : Prop := (isWordS (ofL w) = false ∨ w = cs "not") ∧ 35 ∉ w ∧ (44 ∉ w ∨ 32 ∉ w) ∧ pre (cs "not ") (w ++ cs ", zz") = false
def WKey (w : List Nat) : Prop := isKeyS (ofL w) = false ∧ 35 ∉ w ∧ 32 ∉ w
def WItem (w : List Nat) : Prop := isItemS (ofL w) = false ∧ 35 ∉ w ∧ (44 ∉ w ∨ 32 ∉ w)
def WrongK (kind : Str) (w : List Nat) : Prop := WW w ∧ (if kind = "section" then WSec w else if kind = "plain" then WPlain w else if kind = "value" then WVal w else if kind = "key" then WKey w else WItem w)
/-! ### parting -/
theorem partIs {w : List Nat} (h : 105 ∉ w) (r : List Nat) : partL [32, 105, 115, 32] (w ++ ([32, 105, 115, 32] ++ r)) = (w, true, r) := by
  induction w with
  | nil => exact partL_hit (by simp) r
  | cons x w ih =>
    simp only [List.mem_cons, not_or] at h
    rw [List.cons_append, partL_skip (by
      cases e : pre [32, 105, 115, 32] (x :: (w ++ ([32, 105, 115, 32] ++ r))) with
      | false => rfl
      | true =>
        exfalso
        have := pre_iff.mp e
        cases w with
        | nil => simp at this
        | cons y w =>
          simp at this
          simp only [List.mem_cons, not_or] at h
          exact h.2.1 this.2.1.symm), ih h.2]
theorem splComma {w : List Nat} (h : 44 ∉ w ∨ 32 ∉ w) (r : List Nat) : splL [44, 32] (w ++ ([44, 32] ++ r)) = w :: splL [44, 32] r := by
  induction w with
  | nil => exact splL_hit (by simp) r
  | cons x w ih =>
    have h' : 44 ∉ w ∨ 32 ∉ w := h.imp (fun z q => z (List.mem_cons_of_mem _ q)) fun z q => z (List.mem_cons_of_mem _ q)
    rw [List.cons_append]
    refine splL_skip ?_ (ih h')
    cases e : pre [44, 32] (x :: (w ++ ([44, 32] ++ r))) with
    | false => rfl
    | true =>
      exfalso
      have := pre_iff.mp e
      cases w with
      | nil => simp at this
      | cons y w =>
        simp at this
        rcases h with h | h
        · exact h (by rw [this.1]; simp)
        · exact h (by rw [this.2]; simp)
theorem splComma0 {w : List Nat} (h : 44 ∉ w ∨ 32 ∉ w) : splL [44, 32] w = [w] := by
  induction w with
  | nil => rfl
  | cons x w ih =>
    have h' : 44 ∉ w ∨ 32 ∉ w := h.imp (fun z q => z (List.mem_cons_of_mem _ q)) fun z q => z (List.mem_cons_of_mem _ q)
    refine splL_skip ?_ (ih h')
    cases e : pre [44, 32] (x :: w) with
    | false => rfl
    | true =>
      exfalso
      have := pre_iff.mp e
      cases w with
      | nil => simp at this
      | cons y w =>
        simp at this
        rcases h with h | h
        · exact h (by rw [this.1]; simp)
        · exact h (by rw [this.2]; simp)
/-- a line that is broken by a sign # : what stands ahead of it counts -/
theorem body_hash {b q : List Nat} (h35 : 35 ∉ b) (hd : b.head? ≠ some 32) (hb : b ≠ []) : bodyB (b ++ 35 :: q) = toldB (rstL 32 b) := by
  unfold bodyB
  rw [partL_one q h35]
  simp only [if_true]
  rw [lstL_no hd]
theorem not_end {l : List Nat} {c : Nat} (hc : c ∈ l) (h : c ∉ cs "end") : l ≠ cs "end" := fun e => h (by rw [← e]; exact hc)
theorem told_when_no {l : List Nat} (hp : (partL [32] l).1 = cs "when") (hne : l ≠ []) (he : l ≠ cs "end") (hh : l.head? ≠ some 91) (h : whenB l = .no) : toldB l = .no := by
  unfold toldB
  rw [if_neg hne, if_neg he, if_neg hh, if_pos hp, h]
theorem whenBody_no {f : List Nat} {vs : List (List Nat)} {p : Bool} (h : isPlainS (ofL f) = false ∨ ∃ v ∈ vs, isWordS (ofL v) = false ∨ v = cs "not") : whenBody f vs p = .no := by
  unfold whenBody
  rw [if_neg]
  intro z
  simp only [Bool.and_eq_true, List.all_eq_true, Bool.not_eq_true', decide_eq_false_iff_not] at z
  rcases h with h | ⟨v, hv, h | h⟩
  · rw [h] at z; exact Bool.noConfusion z.1
  · have := z.2.1 v hv
    rw [h] at this; cases this
  · exact z.2.2.1 (by rw [← h]; exact hv)
theorem whenB_open {l : List Nat} (h : (partL (cs " is ") (l.drop 5)).2.2 = []) : whenB l = .no := by
  unfold whenB
  rw [h]
  exact whenBody_no (.inr ⟨[], by decide +kernel, .inl (by decide +kernel)⟩)
theorem partL_no32 {r : List Nat} (h : 32 ∉ r) : (partL (cs " is ") r).2.2 = [] := by
  rw [isL_cs]
  induction r with
  | nil => rfl
  | cons c r ih =>
    simp only [List.mem_cons, not_or] at h
    rw [partL_skip (pre_head fun z => h.1 z.symm)]
    exact ih h.2
/-- when f is r: r's first value, f wrong or a value wrong -/
theorem when_line_no {f r : List Nat} (hf : 105 ∉ f) (hf35 : 35 ∉ f) (hr35 : 35 ∉ r) (h : whenBody f (splL (cs ", ") (restOf r)) (posOf r) = .no) : bodyB (cs "when " ++ (f ++ (cs " is " ++ r))) = .no := by
  have eh : cs "when " ++ (f ++ (cs " is " ++ r)) = [119, 104, 101, 110] ++ 32 :: (f ++ ([32, 105, 115, 32] ++ r)) := by rw [whenL_cs, isL_cs]; rfl
  rw [body_clean (by
    rw [eh]
    intro z
    simp only [List.mem_append, List.mem_cons, List.not_mem_nil, or_false] at z
    rcases z with z | z | z | z | z
    · omega
    · omega
    · exact hf35 z
    · omega
    · exact hr35 z) (by rw [eh]; simp)]
  refine told_when_no ?_ (by rw [eh]; simp) (by
    have e : cs "end" = [101, 110, 100] := by decide +kernel
    rw [e, eh]
    intro z
    injection z with z1 z2
    omega) (by rw [eh]; simp) ?_
  · rw [eh, partL_one _ (by decide), when_cs]
  · unfold whenB
    have ed : (cs "when " ++ (f ++ (cs " is " ++ r))).drop 5 = f ++ ([32, 105, 115, 32] ++ r) := by rw [eh]; rfl
    rw [ed, isL_cs, partIs hf]
    exact h
/-- when f, broken within f -/
theorem when_hash_no {p q : List Nat} (hp : ∀ c ∈ p, okG c) : bodyB (cs "when " ++ (p ++ 35 :: q)) = .no := by
  have fr : ∀ x, x ≠ 113 ∧ x ∉ cs "abZ_09" → x ∉ p := fun x hx z => by
    rcases hp x z with a | a
    · exact hx.1 a
    · exact hx.2 a
  have h32 := fr 32 (by decide +kernel)
  have h35 := fr 35 (by decide +kernel)
  have eb : cs "when " ++ (p ++ 35 :: q) = (cs "when " ++ p) ++ 35 :: q := by simp
  rw [eb, body_hash (by
    rw [whenL_cs]
    intro z
    simp only [List.mem_append, List.mem_cons, List.not_mem_nil, or_false] at z
    rcases z with z | z
    · omega
    · exact h35 z) (by rw [whenL_cs]; simp) (by rw [whenL_cs]; simp)]
  by_cases h0 : p = []
  · subst h0
    have : rstL 32 (cs "when " ++ []) = cs "when" := by decide +kernel
    rw [this]
    exact isNoB_eq (by decide +kernel)
  · have er : rstL 32 (cs "when " ++ p) = cs "when " ++ p := by
      have hl : (cs "when " ++ p).getLast? ≠ some 32 := by
        intro z
        rw [List.getLast?_append] at z
        cases e : p.getLast? with
        | none => rw [List.getLast?_eq_none_iff] at e; exact h0 e
        | some c =>
          rw [e] at z
          have : c = 32 := by simpa using z
          subst this
          exact h32 (List.mem_of_getLast? e)
      simpa using rstL_sp (b := cs "when " ++ p) hl 0
    rw [er]
    have eh : cs "when " ++ p = [119, 104, 101, 110] ++ 32 :: p := by rw [whenL_cs]; rfl
    refine told_when_no (by rw [eh, partL_one _ (by decide), when_cs]) (by rw [eh]; simp) (by
      have e : cs "end" = [101, 110, 100] := by decide +kernel
      rw [e, eh]
      intro z
      injection z with z1 z2
      omega) (by rw [eh]; simp) (whenB_open ?_)
    have ed : (cs "when " ++ p).drop 5 = p := by rw [eh]; rfl
    rw [ed]
    exact partL_no32 h32
/-! ### section lines -/
theorem told_half {p : List Nat} (h : 93 ∉ p) : toldB (91 :: p) = .no := by
  unfold toldB
  rw [if_neg (by simp), if_neg (by
    have e : cs "end" = [101, 110, 100] := by decide +kernel
    rw [e]
    intro z
    cases z), if_pos (show (91 :: p).head? = some 91 from rfl)]
  unfold sectionB
  rw [if_neg]
  intro z
  rw [Bool.and_eq_true] at z
  have h1 := z.1
  have hl : (91 :: p).getLast? = some 93 := by
    unfold lastIs at h1
    simpa using h1
  have : 93 ∈ 91 :: p := List.mem_of_getLast? hl
  rcases List.mem_cons.mp this with a | a
  · cases a
  · exact h a
theorem rst_no {b : List Nat} (h : b.getLast? ≠ some 32) : rstL 32 b = b := by simpa using rstL_sp (b := b) h 0
theorem sec_hash_no {p q : List Nat} (h93 : 93 ∉ p) (h35 : 35 ∉ p) (h32 : 32 ∉ p) : bodyB (91 :: (p ++ 35 :: q)) = .no := by
  have eb : 91 :: (p ++ 35 :: q) = (91 :: p) ++ 35 :: q := by simp
  rw [eb, body_hash (by simp [h35]) (by simp) (by simp), rst_no (fun z => by
    have := List.mem_of_getLast? z
    simp at this
    exact h32 this), told_half h93]
theorem splC_two {a b : List Nat} (ha : 46 ∉ a) (hb : 46 ∉ b) : splC 46 (a ++ 46 :: b) = [a, b] := by rw [splC_app _ _ ha, splC_no hb]
theorem sec_line_no {a b : List Nat} (h35a : 35 ∉ a) (h35b : 35 ∉ b) (ha : 46 ∉ a) (hb : 46 ∉ b) (h : isPlainS (ofL a) = false ∨ isPlainS (ofL b) = false) : bodyB (secLine (a ++ 46 :: b)) = .no := by
  rw [body_clean (by
    unfold secLine
    intro z
    simp only [List.mem_cons, List.mem_append, List.not_mem_nil, or_false] at z
    rcases z with z | (z | z | z) | z
    · omega
    · exact h35a z
    · omega
    · exact h35b z
    · omega) (by simp [secLine])]
  unfold toldB
  rw [if_neg (by simp [secLine]), if_neg (by
    have e : cs "end" = [101, 110, 100] := by decide +kernel
    rw [e]
    unfold secLine
    intro z
    injection z with z1 z2
    omega), if_pos (show (secLine (a ++ 46 :: b)).head? = some 91 from rfl)]
  unfold sectionB
  have es : secOf (secLine (a ++ 46 :: b)) = a ++ 46 :: b := by
    unfold secOf secLine
    show ((a ++ 46 :: b) ++ [93]).dropLast = _
    rw [List.dropLast_concat]
  rw [es, if_neg]
  intro z
  simp only [Bool.and_eq_true, Bool.or_eq_true, decide_eq_true_eq] at z
  rcases z.2.2 with y | y
  · simp at y
  · unfold isSectionS allPlain dots at y
    rw [ofL_l, splC_two ha hb] at y
    simp only [Bool.and_eq_true, List.all_cons, List.all_nil, Bool.and_true] at y
    rcases h with h | h
    · rw [h] at y; exact Bool.noConfusion y.2.1
    · rw [h] at y; exact Bool.noConfusion y.2.2
/-! ### lines of statements -/
theorem bare_no {key : List Nat} (hk : isKeyS (ofL key) = false) (h35 : 35 ∉ key) (s : String) (hs : s = "unset" ∨ s = "lock") : bodyB (cs s ++ 32 :: key) = .no := by
  have main : ∀ t : List Nat, cs s = t → 32 ∉ t → t ≠ [] → t.head? ≠ some 91 → t.head? ≠ some 32 → 35 ∉ t → t ≠ cs "when" → bodyB (cs s ++ 32 :: key) = .no := by
    intro t ht h32 hne h91 hh32 ht35 hw
    rw [body_clean (by
      rw [ht]
      intro z
      simp only [List.mem_cons, List.mem_append] at z
      rcases z with z | z | z
      · exact ht35 z
      · omega
      · exact h35 z) (by
      rw [ht]
      cases t with
      | nil => exact absurd rfl hne
      | cons a r => exact hh32)]
    have ep : partL [32] (cs s ++ 32 :: key) = (cs s, true, key) := partL_one key (by rw [ht]; exact h32)
    have e1 : cs s ++ 32 :: key ≠ cs "end" := by
      have e : cs "end" = [101, 110, 100] := by decide +kernel
      rw [e]
      intro z
      have : (32 : Nat) ∈ [101, 110, 100] := by rw [← z]; simp
      revert this
      decide
    unfold toldB
    rw [if_neg (by simp), if_neg e1, if_neg (by
      rw [ht]
      cases t with
      | nil => exact absurd rfl hne
      | cons a r => exact h91), ep, if_neg (by rw [ht]; exact hw), if_pos (by rcases hs with rfl | rfl <;> simp), if_neg (by
        show ¬ isKeyS (ofL key) = true
        rw [hk]; simp)]
  rcases hs with rfl | rfl
  · exact main [117, 110, 115, 101, 116] (by decide +kernel) (by decide) (by decide) (by decide) (by decide) (by decide) (by decide +kernel)
  · exact main [108, 111, 99, 107] (by decide +kernel) (by decide) (by decide) (by decide) (by decide) (by decide) (by decide +kernel)
theorem stBody_no {key : List Nat} {s : Str} {is : List (List Nat)} (h : isKeyS (ofL key) = false) : stBody key s is = .no := by
  unfold stBody
  split
  · rfl
  · rw [if_neg]
    rw [h]
    simp
theorem isKey_32 {r : List Nat} (h : 32 ∈ r) : isKeyS (ofL r) = false := by
  cases e : isKeyS (ofL r) with
  | false => rfl
  | true =>
    exfalso
    unfold isKeyS isPlainS hasSignsS at e
    simp only [Bool.and_eq_true, List.all_eq_true, ofL_l] at e
    have := e.1.1.2 32 h
    revert this
    decide +kernel
theorem told_badkey {k r : List Nat} (h32 : 32 ∉ k) (hk : isKeyS (ofL k) = false) (hne : k ≠ []) (h105 : 105 ∉ r) (hr : 32 ∈ r) (hl : r.getLast? = some 122) : toldB (k ++ 32 :: r) = .no := by
  have ep : partL [32] (k ++ 32 :: r) = (k, true, r) := partL_one r h32
  have e1 : k ++ 32 :: r ≠ cs "end" := not_end (c := 32) (by simp) (by decide +kernel)
  by_cases h91 : (k ++ 32 :: r).head? = some 91
  · unfold toldB
    rw [if_neg (by simp), if_neg e1, if_pos h91]
    unfold sectionB
    rw [if_neg]
    intro z
    rw [Bool.and_eq_true] at z
    have h1 := z.1
    unfold lastIs at h1
    rw [decide_eq_true_eq, List.getLast?_append, show (32 :: r) = [32] ++ r from rfl, List.getLast?_append, hl] at h1
    simp at h1
  · by_cases hw : k = cs "when"
    · refine told_when_no (by rw [ep]; exact hw) (by simp) e1 h91 (whenB_open ?_)
      have ed : (k ++ 32 :: r).drop 5 = r := by rw [hw, when_cs]; rfl
      rw [ed, isL_cs]
      have : ∀ r : List Nat, 105 ∉ r → (partL [32, 105, 115, 32] r).2.2 = [] := fun r => by
        induction r with
        | nil => intro _; rfl
        | cons c r ih =>
          intro h
          simp only [List.mem_cons, not_or] at h
          rw [partL_skip (by
            cases e : pre [32, 105, 115, 32] (c :: r) with
            | false => rfl
            | true =>
              exfalso
              have := pre_iff.mp e
              cases r with
              | nil => simp at this
              | cons y w =>
                simp at this
                simp only [List.mem_cons, not_or] at h
                exact h.2.1 this.2.1.symm)]
          exact ih h.2
      exact this r h105
    · unfold toldB
      rw [if_neg (by simp), if_neg e1, if_neg h91, ep, if_neg hw]
      by_cases hu : k = cs "unset" ∨ k = cs "lock"
      · rw [if_pos hu, if_neg (by
          show ¬ isKeyS (ofL r) = true
          rw [isKey_32 hr]; simp)]
      · rw [if_neg hu]
        unfold statementB
        rw [ep]
        exact stBody_no hk
def opS : List String := ["=", "+=", "^=", "-=", "?="]
def wordS : List String := ["set", "append", "prepend", "drop", "default"]
theorem ops_ok : ∀ s ∈ opS, 32 ∉ cs s ∧ 35 ∉ cs s ∧ 105 ∉ cs s ∧ cs s ≠ [] ∧ (cs s).head? ≠ some 32 ∧ isKeyS (ofL (cs s)) = false ∧ (wordOf (ofL (cs s))).isSome = true ∧ 10 ∉ cs s ∧ (∀ c ∈ cs s, c < 256) ∧ (cs s).length ≤ 2 := by decide +kernel
theorem zz_cs : cs ", zz" = [44, 32, 122, 122] := by decide +kernel
/-- the key wrong -/
theorem key_line_no {k w : List Nat} {s : String} (hs : s ∈ opS) (hk : WKey k) (hw35 : 35 ∉ w) (hw : 105 ∉ w) : bodyB (k ++ 32 :: (cs s ++ 32 :: (w ++ cs ", zz"))) = .no := by
  obtain ⟨o32, o35, o105, one, ohd, okey, _⟩ := ops_ok s hs
  obtain ⟨k0, k35, k32⟩ := hk
  have z35 : 35 ∉ cs ", zz" := by decide +kernel
  have z105 : 105 ∉ cs ", zz" := by decide +kernel
  have l35 : 35 ∉ k ++ 32 :: (cs s ++ 32 :: (w ++ cs ", zz")) := fun z => by
    simp only [List.mem_append, List.mem_cons] at z
    rcases z with z | z | z | z | z | z
    · exact k35 z
    · omega
    · exact o35 z
    · omega
    · exact hw35 z
    · exact z35 z
  have r105 : 105 ∉ w ++ cs ", zz" := fun z => by
    rcases List.mem_append.mp z with z | z
    · exact hw z
    · exact z105 z
  have lastw : (w ++ cs ", zz").getLast? = some 122 := by rw [zz_cs, List.getLast?_append]; rfl
  have sp : 32 ∈ w ++ cs ", zz" := by rw [zz_cs]; simp
  have lastr : (cs s ++ 32 :: (w ++ cs ", zz")).getLast? = some 122 := by
    rw [List.getLast?_append, show (32 :: (w ++ cs ", zz")) = [32] ++ (w ++ cs ", zz") from rfl, List.getLast?_append, lastw]; rfl
  have rr105 : 105 ∉ cs s ++ 32 :: (w ++ cs ", zz") := fun z => by
    rcases List.mem_append.mp z with z | z
    · exact o105 z
    · rcases List.mem_cons.mp z with z | z
      · omega
      · exact r105 z
  by_cases h0 : k = []
  · subst h0
    unfold bodyB
    rw [partL_free l35]
    show toldB (if false = true then _ else lstL 32 (32 :: (cs s ++ 32 :: (w ++ cs ", zz")))) = _
    rw [if_neg (by simp)]
    have el : lstL 32 (32 :: (cs s ++ 32 :: (w ++ cs ", zz"))) = cs s ++ 32 :: (w ++ cs ", zz") := by
      have := lstL_sp (c := 32) (b := cs s ++ 32 :: (w ++ cs ", zz")) (by
        cases e : cs s with
        | nil => exact absurd e one
        | cons a r => rw [e] at ohd; exact ohd) 1
      exact this
    rw [el]
    exact told_badkey o32 okey one r105 sp lastw
  · rw [body_clean l35 (by
      cases k with
      | nil => exact absurd rfl h0
      | cons a r =>
        intro z
        have : a = 32 := by simpa using z
        exact k32 (by rw [this]; simp))]
    exact told_badkey k32 k0 h0 rr105 (by simp) lastr
/-- an item wrong -/
theorem item_line_no {k w : List Nat} {s : String} (hs : s ∈ opS) (K : KeyOk k) (hw : WItem w) : bodyB (k ++ 32 :: (cs s ++ 32 :: (w ++ cs ", zz"))) = .no := by
  obtain ⟨o32, o35, o105, one, ohd, okey, ow, _⟩ := ops_ok s hs
  obtain ⟨w0, w35, wc⟩ := hw
  have z35 : 35 ∉ cs ", zz" := by decide +kernel
  refine open_no K ?_ (fun z => by
    simp only [List.mem_append, List.mem_cons] at z
    rcases z with z | z | z | z
    · exact o35 z
    · omega
    · exact w35 z
    · exact z35 z)
  unfold badRest
  have ep : partL [32] (cs s ++ 32 :: (w ++ cs ", zz")) = (cs s, true, w ++ cs ", zz") := partL_one _ o32
  rw [ep]
  show (match wordOf (ofL (cs s)) with | none => true | some _ => _) = true
  cases e : wordOf (ofL (cs s)) with
  | none => rfl
  | some x =>
    have ei : itemsOf (cs s, true, w ++ cs ", zz") = [w, cs "zz"] := by
      show splL (cs ", ") (w ++ cs ", zz") = _
      have : w ++ cs ", zz" = w ++ ([44, 32] ++ cs "zz") := by rw [zz_cs, show cs "zz" = [122, 122] from by decide +kernel]; rfl
      rw [this, csL_cs, splComma wc, splComma0 (.inl (by decide +kernel))]
    simp only [ei, List.all_cons, w0, Bool.false_and, Bool.not_false]
/-! ### the five kinds of lines -/
def lineK (kind sign : Nat) (a b : List Nat) : List Nat := match kind with
  | 0 => secLine (a ++ 46 :: b)
  | 1 => cs "when " ++ (a ++ (cs " is " ++ (b ++ cs ", zz")))
  | 2 => cs "when " ++ (a ++ (cs " is " ++ (cs "not zz, " ++ b)))
  | 3 => cs (if sign % 2 = 0 then "unset" else "lock") ++ 32 :: a
  | _ => a ++ 32 :: (cs (opS.getD sign "=") ++ 32 :: (b ++ cs ", zz"))
def kindL (kind : Nat) : Str × Str := match kind with
  | 0 => ("section", "section")
  | 1 => ("plain", "value")
  | 2 => ("plain", "value")
  | 3 => ("key", "key")
  | _ => ("key", "item")
theorem RW.keyOk {w : List Nat} (h : RW "key" w) : KeyOk w := by
  obtain ⟨c, r, e, hc⟩ := h.head
  have hd : ∀ x, x ≠ 97 → x ≠ 113 → w.head? ≠ some x := fun x h1 h2 z => by
    rw [e] at z
    have : c = x := by simpa using z
    omega
  exact ⟨h.key, h.free (by decide +kernel), hd _ (by decide) (by decide), hd _ (by decide) (by decide), h.ne, h.free (by decide +kernel), h.free (by decide +kernel), h.free (by decide +kernel), fun c hc => by have := h.lt c hc; omega, by have := h.len; omega⟩
theorem okG_of {kind : Str} (hk : kind ∈ plainKs) {w : List Nat} (h : RW kind w) : ∀ c ∈ w, okG c := fun c hc => (h.signs c hc).imp id fun z => by rw [sgK_plain hk] at z; exact z
theorem okG_no {p : List Nat} (h : ∀ c ∈ p, okG c) {x : Nat} (hx : x ≠ 113 ∧ x ∉ cs "abZ_09") : x ∉ p := fun z => by
  rcases h x z with a | a
  · exact hx.1 a
  · exact hx.2 a
theorem op_mem : ∀ sign : Nat, opS.getD sign "=" ∈ opS
  | 0 => by decide
  | 1 => by decide
  | 2 => by decide
  | 3 => by decide
  | 4 => by decide
  | n + 5 => by show "=" ∈ opS; decide
theorem op_word : ∀ k : Nat, wordOf (ofL (cs (opS.getD k "="))) = some (Str.ofString (wordS.getD k "set"))
  | 0 => by decide +kernel
  | 1 => by decide +kernel
  | 2 => by decide +kernel
  | 3 => by decide +kernel
  | 4 => by decide +kernel
  | n + 5 => by show wordOf (ofL (cs "=")) = some (Str.ofString "set"); decide +kernel
theorem sK : ("section" : Str) ∈ plainKs := by simp [plainKs]
theorem pK : ("plain" : Str) ∈ plainKs := by simp [plainKs]
theorem kK : ("key" : Str) ∈ plainKs := by simp [plainKs]
theorem wrong_sec {w : List Nat} (h : WrongK "section" w) : WSec w := h.2
theorem wrong_plain {w : List Nat} (h : WrongK "plain" w) : WPlain w := by
  have := h.2
  rwa [if_neg (by decide +kernel), if_pos rfl] at this
theorem wrong_val {w : List Nat} (h : WrongK "value" w) : WVal w := by
  have := h.2
  rwa [if_neg (by decide +kernel), if_neg (by decide +kernel), if_pos rfl] at this
theorem wrong_key {w : List Nat} (h : WrongK "key" w) : WKey w := by
  have := h.2
  rwa [if_neg (by decide +kernel), if_neg (by decide +kernel), if_neg (by decide +kernel), if_pos rfl] at this
theorem wrong_item {w : List Nat} (h : WrongK "item" w) : WItem w := by
  have := h.2
  rwa [if_neg (by decide +kernel), if_neg (by decide +kernel), if_neg (by decide +kernel), if_neg (by decide +kernel)] at this
theorem z35 : 35 ∉ cs ", zz" := by decide +kernel
theorem when_fact_no {a r : List Nat} (h : WPlain a) (hr : 35 ∉ r) : bodyB (cs "when " ++ (a ++ (cs " is " ++ r))) = .no := by
  rcases h with ⟨p, q, rfl, hp⟩ | ⟨h1, h2, h3⟩
  · have e : cs "when " ++ (p ++ 35 :: q ++ (cs " is " ++ r)) = cs "when " ++ (p ++ 35 :: (q ++ (cs " is " ++ r))) := by simp
    rw [e]
    exact when_hash_no hp
  · exact when_line_no h3 h2 hr (whenBody_no (.inl h1))
/-- the first word wrong -/
theorem line_no0 {kind sign : Nat} {a b : List Nat} (ha : WrongK (kindL kind).1 a) (hb : RW (kindL kind).2 b) : bodyB (lineK kind sign a b) = .no := by
  match kind, ha, hb with
  | 0, ha, hb =>
    rcases wrong_sec ha with ⟨p, q, rfl, hp⟩ | ⟨h1, h2, h3⟩
    · have e : lineK 0 sign (p ++ 35 :: q) b = 91 :: (p ++ 35 :: (q ++ 46 :: b ++ [93])) := by
        show secLine _ = _
        unfold secLine
        simp
      rw [e]
      exact sec_hash_no (okG_no hp (by decide +kernel)) (okG_no hp (by decide +kernel)) (okG_no hp (by decide +kernel))
    · exact sec_line_no h2 (hb.free2 sK (by decide +kernel)) h3 (hb.free2 sK (by decide +kernel)) (.inl h1)
  | 1, ha, hb =>
    refine when_fact_no (wrong_plain ha) fun z => ?_
    rcases List.mem_append.mp z with z | z
    · exact hb.free (by decide +kernel) z
    · exact z35 z
  | 2, ha, hb =>
    refine when_fact_no (wrong_plain ha) fun z => ?_
    rcases List.mem_append.mp z with z | z
    · revert z; decide +kernel
    · exact hb.free (by decide +kernel) z
  | 3, ha, hb =>
    show bodyB (cs (if sign % 2 = 0 then "unset" else "lock") ++ 32 :: a) = .no
    obtain ⟨h1, h2, h3⟩ := wrong_key ha
    split
    · exact bare_no h1 h2 "unset" (.inl rfl)
    · exact bare_no h1 h2 "lock" (.inr rfl)
  | n + 4, ha, hb =>
    have hb' : RW "item" b := hb
    exact key_line_no (op_mem sign) (wrong_key ha) (hb'.free (by decide +kernel)) (hb'.free (by decide +kernel))
theorem posOf_neg {r : List Nat} (h : pre (cs "not ") r = false) : posOf r = true ∧ restOf r = r := by
  have e : posOf r = true := by unfold posOf; rw [h]; rfl
  exact ⟨e, by unfold restOf; rw [if_pos e]⟩
theorem nzz_cs : cs "not zz, " = [110, 111, 116, 32, 122, 122, 44, 32] := by decide +kernel
theorem pos_nzz (b : List Nat) : posOf (cs "not zz, " ++ b) = false ∧ restOf (cs "not zz, " ++ b) = cs "zz" ++ ([44, 32] ++ b) := by
  have e : posOf (cs "not zz, " ++ b) = false := by
    unfold posOf
    have : cs "not zz, " ++ b = cs "not " ++ ([122, 122, 44, 32] ++ b) := by rw [nzz_cs, notL_cs]; rfl
    rw [this, pre_app]
    rfl
  refine ⟨e, ?_⟩
  unfold restOf
  rw [if_neg (by rw [e]; simp), nzz_cs, show cs "zz" = [122, 122] from by decide +kernel]
  rfl
/-- the second word wrong -/
theorem line_no1 {kind sign : Nat} {a b : List Nat} (h3 : kind ≠ 3) (ha : RW (kindL kind).1 a) (hb : WrongK (kindL kind).2 b) : bodyB (lineK kind sign a b) = .no := by
  match kind, h3, ha, hb with
  | 0, _, ha, hb =>
    rcases wrong_sec hb with ⟨p, q, rfl, hp⟩ | ⟨h1, h2, h3⟩
    · have e : lineK 0 sign a (p ++ 35 :: q) = 91 :: ((a ++ 46 :: p) ++ 35 :: (q ++ [93])) := by
        show secLine _ = _
        unfold secLine
        simp
      rw [e]
      have no : ∀ x, x ≠ 46 → (x ≠ 113 ∧ x ∉ cs "abZ_09") → x ∉ a ++ 46 :: p := fun x h46 hx z => by
        simp only [List.mem_append, List.mem_cons] at z
        rcases z with z | z | z
        · exact ha.free2 sK hx z
        · exact h46 z
        · exact okG_no hp hx z
      exact sec_hash_no (no _ (by decide) (by decide +kernel)) (no _ (by decide) (by decide +kernel)) (no _ (by decide) (by decide +kernel))
    · exact sec_line_no (ha.free2 sK (by decide +kernel)) h2 (ha.free2 sK (by decide +kernel)) h3 (.inr h1)
  | 1, _, ha, hb =>
    obtain ⟨h1, h2, h3, h4⟩ := wrong_val hb
    have eb : b ++ cs ", zz" = b ++ ([44, 32] ++ cs "zz") := by rw [zz_cs, show cs "zz" = [122, 122] from by decide +kernel]; rfl
    obtain ⟨p1, p2⟩ := posOf_neg h4
    refine when_line_no (ha.free2 pK (by decide +kernel)) (ha.free2 pK (by decide +kernel)) (fun z => ?_) (whenBody_no (.inr ⟨b, ?_, h1⟩))
    · rcases List.mem_append.mp z with z | z
      · exact h2 z
      · exact z35 z
    · rw [p2, eb, csL_cs, splComma h3]
      simp
  | 2, _, ha, hb =>
    obtain ⟨h1, h2, h3, h4⟩ := wrong_val hb
    obtain ⟨p1, p2⟩ := pos_nzz b
    refine when_line_no (ha.free2 pK (by decide +kernel)) (ha.free2 pK (by decide +kernel)) (fun z => ?_) (whenBody_no (.inr ⟨b, ?_, h1⟩))
    · rcases List.mem_append.mp z with z | z
      · revert z; decide +kernel
      · exact h2 z
    · rw [p2, csL_cs, splComma (.inl (by decide +kernel)), splComma0 h3]
      simp
  | 3, h3, _, _ => exact absurd rfl h3
  | n + 4, _, ha, hb =>
    have ha' : RW "key" a := ha
    exact item_line_no (op_mem sign) ha'.keyOk (wrong_item hb)
/-! the right lines -/
theorem zz2_cs : cs "zz" = [122, 122] := by decide +kernel
theorem rw_zz {w : List Nat} {kind : Str} (h : RW kind w) : w ≠ cs "zz" := fun e => by
  have := h.last
  rw [e] at this
  revert this
  decide +kernel
theorem glue_zz (b : List Nat) : b ++ cs ", zz" = glue (cs ", ") [b, cs "zz"] := by
  rw [zz_cs, csL_cs, zz2_cs]
  rfl
theorem zz_glue (b : List Nat) : cs "not zz, " ++ b = cs "not " ++ glue (cs ", ") [cs "zz", b] := by
  rw [nzz_cs, notL_cs, csL_cs, zz2_cs]
  rfl
theorem line_good {kind sign : Nat} {a b : List Nat} (ha : RW (kindL kind).1 a) (hb : RW (kindL kind).2 b) : bodyB (lineK kind sign a b) =
    (match kind with
    | 0 => .sec (a ++ 46 :: b)
    | 1 => .wh a [b, cs "zz"] true
    | 2 => .wh a [cs "zz", b] false
    | 3 => .st a (Str.ofString (if sign % 2 = 0 then "unset" else "lock")) []
    | _ => .st a (Str.ofString (wordS.getD sign "set")) [b, cs "zz"]) := by
  match kind, ha, hb with
  | 0, ha, hb =>
    have f := fun {x : Nat} (hx : x ≠ 113 ∧ x ∉ cs "abZ_09") => And.intro (ha.free2 sK hx) (hb.free2 sK hx)
    show bodyB (secLine (a ++ 46 :: b)) = .sec (a ++ 46 :: b)
    rw [body_clean (by
      unfold secLine
      intro z
      simp only [List.mem_cons, List.mem_append, List.not_mem_nil, or_false] at z
      rcases z with z | (z | z | z) | z
      · omega
      · exact (f (by decide +kernel)).1 z
      · omega
      · exact (f (by decide +kernel)).2 z
      · omega) (by simp [secLine])]
    refine told_sec (.inr ?_)
    have h46 := f (x := 46) (by decide +kernel)
    unfold isSectionS allPlain dots
    rw [ofL_l, splC_two h46.1 h46.2]
    simp only [List.all_cons, List.all_nil, Bool.and_true, ha.plain sK, hb.plain sK]
    rfl
  | 1, ha, hb =>
    have hb' : RW "value" b := hb
    have e : lineK 1 sign a b = whenLine a [b, cs "zz"] true := by
      show cs "when " ++ (a ++ (cs " is " ++ (b ++ cs ", zz"))) = _
      unfold whenLine
      rw [glue_zz, if_pos rfl, List.nil_append]
    obtain ⟨c, r, eb, hc⟩ := hb.head
    rw [e, body_clean (by
      rw [← e]
      show 35 ∉ cs "when " ++ (a ++ (cs " is " ++ (b ++ cs ", zz")))
      intro z
      simp only [List.mem_append] at z
      rcases z with z | z | z | z | z
      · revert z; decide +kernel
      · exact ha.free (by decide +kernel) z
      · revert z; decide +kernel
      · exact hb.free (by decide +kernel) z
      · exact z35 z) (by unfold whenLine; rw [whenL_cs]; simp)]
    refine told_when ⟨ha.plain pK, fun v hv => ?_, fun z => ?_, ?_, by simp, ha.free (by decide +kernel), fun v hv => ?_, fun v q hv => ?_⟩ true
    · simp only [List.mem_cons, List.not_mem_nil, or_false] at hv
      rcases hv with rfl | rfl
      · exact hb'.word
      · decide +kernel
    · simp only [List.mem_cons, List.not_mem_nil, or_false] at z
      rcases z with z | z
      · have := hb.last
        rw [← z] at this
        revert this
        decide +kernel
      · revert z; decide +kernel
    · simp [rw_zz hb]
    · simp only [List.mem_cons, List.not_mem_nil, or_false] at hv
      rcases hv with rfl | rfl
      · exact hb.free (by decide +kernel)
      · decide +kernel
    · injection hv with e1 e2
      subst e1
      have h110 : b.head? ≠ some 110 := by
        rw [eb]
        intro z
        have : c = 110 := by simpa using z
        omega
      refine ⟨?_, fun z => h110 (by simpa using z)⟩
      rw [eb, notL_cs]
      exact pre_head (by omega)
  | 2, ha, hb =>
    have hb' : RW "value" b := hb
    have e : lineK 2 sign a b = whenLine a [cs "zz", b] false := by
      show cs "when " ++ (a ++ (cs " is " ++ (cs "not zz, " ++ b))) = _
      unfold whenLine
      rw [zz_glue, if_neg (by simp)]
    rw [e, body_clean (by
      rw [← e]
      show 35 ∉ cs "when " ++ (a ++ (cs " is " ++ (cs "not zz, " ++ b)))
      intro z
      simp only [List.mem_append] at z
      rcases z with z | z | z | z | z
      · revert z; decide +kernel
      · exact ha.free (by decide +kernel) z
      · revert z; decide +kernel
      · revert z; decide +kernel
      · exact hb.free (by decide +kernel) z) (by unfold whenLine; rw [whenL_cs]; simp)]
    refine told_when ⟨ha.plain pK, fun v hv => ?_, fun z => ?_, ?_, by simp, ha.free (by decide +kernel), fun v hv => ?_, fun v q hv => ?_⟩ false
    · simp only [List.mem_cons, List.not_mem_nil, or_false] at hv
      rcases hv with rfl | rfl
      · decide +kernel
      · exact hb'.word
    · simp only [List.mem_cons, List.not_mem_nil, or_false] at z
      rcases z with z | z
      · revert z; decide +kernel
      · have := hb.last
        rw [← z] at this
        revert this
        decide +kernel
    · simp [(rw_zz hb).symm]
    · simp only [List.mem_cons, List.not_mem_nil, or_false] at hv
      rcases hv with rfl | rfl
      · decide +kernel
      · exact hb.free (by decide +kernel)
    · injection hv with e1 e2
      subst e1
      exact ⟨by decide +kernel, by rw [zz2_cs]; simp⟩
  | 3, ha, hb =>
    have K := RW.keyOk ha
    have one : ∀ s : String, s = "unset" ∨ s = "lock" → bodyB (cs s ++ 32 :: a) = .st a (Str.ofString s) [] := fun s hs => by
      have hc : ∀ s : String, s = "unset" ∨ s = "lock" → 35 ∉ cs s ∧ (cs s).head? ≠ some 32 ∧ cs s ≠ [] := by
        rintro s (rfl | rfl)
        · decide +kernel
        · decide +kernel
      obtain ⟨c1, c2, c3⟩ := hc s hs
      rw [body_clean (fun z => by
        simp only [List.mem_append, List.mem_cons] at z
        rcases z with z | z | z
        · exact c1 z
        · omega
        · exact K.h35 z) (by
        cases e : cs s with
        | nil => exact absurd e c3
        | cons x r => rw [e] at c2; exact c2)]
      exact told_bare K.ok s hs
    show bodyB (cs (if sign % 2 = 0 then "unset" else "lock") ++ 32 :: a) = .st a (Str.ofString (if sign % 2 = 0 then "unset" else "lock")) []
    exact one _ (by split <;> simp)
  | n + 4, ha, hb =>
    have ha' : RW "key" a := ha
    have hb' : RW "item" b := hb
    have K := ha'.keyOk
    obtain ⟨o32, o35, _⟩ := ops_ok _ (op_mem sign)
    show bodyB (a ++ 32 :: (cs (opS.getD sign "=") ++ 32 :: (b ++ cs ", zz"))) = .st a (Str.ofString (wordS.getD sign "set")) [b, cs "zz"]
    rw [body_clean (fun z => by
      simp only [List.mem_append, List.mem_cons] at z
      rcases z with z | z | z | z | z | z
      · exact K.h35 z
      · omega
      · exact o35 z
      · omega
      · exact hb'.free (by decide +kernel) z
      · exact z35 z) (by
      have := K.hd2
      have hn := K.ne
      cases a with
      | nil => exact absurd rfl hn
      | cons x r => exact this), told_open K]
    have ep : partL [32] (cs (opS.getD sign "=") ++ 32 :: (b ++ cs ", zz")) = (cs (opS.getD sign "="), true, b ++ cs ", zz") := partL_one _ o32
    rw [ep]
    have ei : itemsOf (cs (opS.getD sign "="), true, b ++ cs ", zz") = [b, cs "zz"] := by
      show splL (cs ", ") (b ++ cs ", zz") = _
      have : b ++ cs ", zz" = b ++ ([44, 32] ++ cs "zz") := by rw [zz_cs, zz2_cs]; rfl
      rw [this, csL_cs, splComma (.inl (hb'.free (by decide +kernel))), splComma0 (.inl (by decide +kernel))]
    rw [ei]
    unfold stBody
    show (match wordOf (ofL (cs (opS.getD sign "="))) with | none => _ | some w => _) = _
    rw [op_word]
    show (if _ then _ else _) = _
    rw [if_pos]
    simp only [List.all_cons, List.all_nil, hb'.item, K.ok, Bool.true_and, Bool.and_true]
    have : isItemS (ofL (cs "zz")) = true := by decide +kernel
    rw [this]
    simp

/-! a word made wrong -/
def plainLacks : Str := " !\"#$&'()*+,-./:;<=>?\x40[\\]^`{|}~"
def lacksK (kind : Str) : Str := if kind = "plain" then plainLacks else if kind = "section" then " !\"#$&'()*+,-/:;<=>?\x40[\\]^`{|}~" else if kind = "value" then " !\"$&'()*+,.:;<=>?\x40[\\]^`{|}~" else if kind = "item" then " !\"$&'()*+,;<=>?[\\]^`{|}~" else "!\"$&'()*+,-./:;<=>?\x40[\\]^`{|}~"
def kinds5 : List Str := ["section", "plain", "value", "key", "item"]
theorem plain_bad {w : List Nat} (h : hasSignsS (ofL w) "_" = false) : isPlainS (ofL w) = false := by unfold isPlainS; rw [h]; rfl
theorem key_bad {w : List Nat} (h : isPlainS (ofL w) = false) : isKeyS (ofL w) = false := by unfold isKeyS; rw [h]; rfl
theorem item_bad {w : List Nat} (h : hasSignsS (ofL w) itemSigns = false) : isItemS (ofL w) = false := by unfold isItemS; rw [h]; rfl
theorem signs_bad {w : List Nat} {g : Str} {c : Nat} (hc : c ∈ w) (h1 : isLetterN c = false) (h2 : c ∉ g.cps.toList) : hasSignsS (ofL w) g = false := by
  unfold hasSignsS
  rw [Bool.and_eq_false_iff, ofL_l]
  right
  rw [List.all_eq_false]
  exact ⟨c, hc, by simp [h1, h2]⟩
theorem signs_long {w : List Nat} {g : Str} (h : 41 ≤ w.length) : hasSignsS (ofL w) g = false := by
  unfold hasSignsS
  rw [len_ofL, decide_eq_false (show ¬ w.length ≤ 40 by omega)]
  simp
theorem pre_not {w : List Nat} (h : 110 ∉ w) : pre (cs "not ") (w ++ cs ", zz") = false := by
  rw [notL_cs]
  cases w with
  | nil => decide +kernel
  | cons x w =>
    rw [List.cons_append]
    refine pre_head fun z => h (by rw [z]; simp)
theorem wrongK_of {kind : Str} (hk : kind ∈ kinds5) {w : List Nat} (ww : WW w) (h0 : kind = "section" → WSec w) (h1 : kind = "plain" → WPlain w) (h2 : kind = "value" → WVal w) (h3 : kind = "key" → WKey w) (h4 : kind = "item" → WItem w) : WrongK kind w := by
  refine ⟨ww, ?_⟩
  by_cases e0 : kind = "section"
  · rw [if_pos e0]; exact h0 e0
  rw [if_neg e0]
  by_cases e1 : kind = "plain"
  · rw [if_pos e1]; exact h1 e1
  rw [if_neg e1]
  by_cases e2 : kind = "value"
  · rw [if_pos e2]; exact h2 e2
  rw [if_neg e2]
  by_cases e3 : kind = "key"
  · rw [if_pos e3]; exact h3 e3
  rw [if_neg e3]
  simp only [kinds5, List.mem_cons, List.not_mem_nil, or_false] at hk
  exact h4 (by rcases hk with h | h | h | h | h
               · exact absurd h e0
               · exact absurd h e1
               · exact absurd h e2
               · exact absurd h e3
               · exact h)
/-- too long -/
theorem wrong_long {kind : Str} (hk : kind ∈ kinds5) {w : List Nat} (h : RW kind w) : WrongK kind (w ++ List.replicate (41 - w.length) 98) := by
  have hl : (w ++ List.replicate (41 - w.length) 98).length = 41 := by
    have := h.len
    simp; omega
  have no : ∀ x, x ≠ 98 → x ∉ w → x ∉ w ++ List.replicate (41 - w.length) 98 := fun x hx hw z => by
    rcases List.mem_append.mp z with z | z
    · exact hw z
    · exact hx (List.eq_of_mem_replicate z)
  have fr : ∀ x, x ≠ 98 → (x ≠ 113 ∧ x ∉ cs "abZ_09-/:@.") → x ∉ w ++ List.replicate (41 - w.length) 98 := fun x hx hw => no x hx (h.free hw)
  have pl : isPlainS (ofL (w ++ List.replicate (41 - w.length) 98)) = false := plain_bad (signs_long (by omega))
  refine wrongK_of hk ⟨fr 10 (by decide) (by decide +kernel), fun c hc => ?_, by omega⟩ (fun e => .inr ⟨pl, fr 35 (by decide) (by decide +kernel), ?_⟩) (fun e => .inr ⟨pl, fr 35 (by decide) (by decide +kernel), fr 105 (by decide) (by decide +kernel)⟩)
    (fun e => ⟨.inl (signs_long (by omega)), fr 35 (by decide) (by decide +kernel), .inl (fr 44 (by decide) (by decide +kernel)), pre_not (fr 110 (by decide) (by decide +kernel))⟩)
    (fun e => ⟨key_bad pl, fr 35 (by decide) (by decide +kernel), fr 32 (by decide) (by decide +kernel)⟩)
    (fun e => ⟨item_bad (signs_long (by omega)), fr 35 (by decide) (by decide +kernel), .inl (fr 44 (by decide) (by decide +kernel))⟩)
  · rcases List.mem_append.mp hc with z | z
    · exact h.lt c z
    · rw [List.eq_of_mem_replicate z]; decide
  · subst e
    exact no 46 (by decide) (h.free2 sK (by decide +kernel))
theorem wrong_none {kind : Str} (hk : kind ∈ kinds5) : WrongK kind [] :=
  wrongK_of hk ⟨by simp, by simp, by simp⟩ (fun _ => .inr ⟨by decide +kernel, by simp, by simp⟩) (fun _ => .inr ⟨by decide +kernel, by simp, by simp⟩) (fun _ => ⟨.inl (by decide +kernel), by simp, .inl (by simp), by decide +kernel⟩)
    (fun _ => ⟨by decide +kernel, by simp, by simp⟩) (fun _ => ⟨by decide +kernel, by simp, .inl (by simp)⟩)
theorem kinds_ne : (("section" : Str) ≠ "plain" ∧ ("section" : Str) ≠ "value" ∧ ("section" : Str) ≠ "key" ∧ ("section" : Str) ≠ "item") ∧ (("plain" : Str) ≠ "section" ∧ ("plain" : Str) ≠ "value" ∧ ("plain" : Str) ≠ "key" ∧ ("plain" : Str) ≠ "item") ∧
    (("value" : Str) ≠ "section" ∧ ("value" : Str) ≠ "plain" ∧ ("value" : Str) ≠ "key" ∧ ("value" : Str) ≠ "item") ∧ (("key" : Str) ≠ "section" ∧ ("key" : Str) ≠ "plain" ∧ ("key" : Str) ≠ "value" ∧ ("key" : Str) ≠ "item") ∧
    (("item" : Str) ≠ "section" ∧ ("item" : Str) ≠ "plain" ∧ ("item" : Str) ≠ "value" ∧ ("item" : Str) ≠ "key") := by decide +kernel
theorem wrong_res {s : String} (hs : s ∈ ["unset", "lock", "when", "end"]) : WrongK "key" (cs s) := by
  obtain ⟨_, _, _, ⟨n0, n1, n2, n3⟩, _⟩ := kinds_ne
  have all : ∀ s ∈ ["unset", "lock", "when", "end"], 10 ∉ cs s ∧ (∀ c ∈ cs s, c < 256) ∧ (cs s).length ≤ 41 ∧ isKeyS (ofL (cs s)) = false ∧ 35 ∉ cs s ∧ 32 ∉ cs s := by decide +kernel
  obtain ⟨a, b, c, d, e, f⟩ := all s hs
  exact wrongK_of (by simp [kinds5]) ⟨a, b, c⟩ (fun z => absurd z n0) (fun z => absurd z n1) (fun z => absurd z n2) (fun _ => ⟨d, e, f⟩) (fun z => absurd z n3)
theorem wrong_fig {kind : Str} (hk : kind = "section" ∨ kind = "plain") {w : List Nat} (h : RW kind w) : WrongK kind (57 :: w.drop 1) := by
  obtain ⟨⟨s1, s2, s3, s4⟩, ⟨p1, p2, p3, p4⟩, _⟩ := kinds_ne
  have hp : kind ∈ plainKs := by rcases hk with rfl | rfl; exact sK; exact pK
  have no : ∀ x, x ≠ 57 → (x ≠ 113 ∧ x ∉ cs "abZ_09") → x ∉ 57 :: w.drop 1 := fun x hx hw z => by
    rcases List.mem_cons.mp z with z | z
    · exact hx z
    · exact h.free2 hp hw (List.mem_of_mem_drop z)
  have pl : isPlainS (ofL (57 :: w.drop 1)) = false := by
    unfold isPlainS
    rw [ofL_l]
    simp [headDig]
  have ww : WW (57 :: w.drop 1) := ⟨no 10 (by decide) (by decide +kernel), fun c hc => by
    rcases List.mem_cons.mp hc with z | z
    · omega
    · exact h.lt c (List.mem_of_mem_drop z), by have := h.len; simp; omega⟩
  rcases hk with rfl | rfl
  · exact wrongK_of (by simp [kinds5]) ww (fun _ => .inr ⟨pl, no 35 (by decide) (by decide +kernel), no 46 (by decide) (by decide +kernel)⟩) (fun z => absurd z s1) (fun z => absurd z s2) (fun z => absurd z s3) (fun z => absurd z s4)
  · exact wrongK_of (by simp [kinds5]) ww (fun z => absurd z p1) (fun _ => .inr ⟨pl, no 35 (by decide) (by decide +kernel), no 105 (by decide) (by decide +kernel)⟩) (fun z => absurd z p2) (fun z => absurd z p3) (fun z => absurd z p4)
theorem wrong_dot {w : List Nat} (h : RW "item" w) : WrongK "item" (w.take 39 ++ [46]) := by
  obtain ⟨_, _, _, _, i1, i2, i3, i4⟩ := kinds_ne
  have no : ∀ x, x ≠ 46 → (x ≠ 113 ∧ x ∉ cs "abZ_09-/:@.") → x ∉ w.take 39 ++ [46] := fun x hx hw z => by
    rcases List.mem_append.mp z with z | z
    · exact h.free hw (List.mem_of_mem_take z)
    · exact hx (List.mem_singleton.mp z)
  refine wrongK_of (by simp [kinds5]) ⟨no 10 (by decide) (by decide +kernel), fun c hc => ?_, by simp; omega⟩ (fun z => absurd z i1) (fun z => absurd z i2) (fun z => absurd z i3) (fun z => absurd z i4) (fun _ => ⟨?_, no 35 (by decide) (by decide +kernel), .inl (no 44 (by decide) (by decide +kernel))⟩)
  · rcases List.mem_append.mp hc with z | z
    · exact h.lt c (List.mem_of_mem_take z)
    · rw [List.mem_singleton.mp z]; decide
  · unfold isItemS
    rw [ofL_l]
    simp
theorem wrong_not : WrongK "value" (cs "not") := by
  obtain ⟨_, _, ⟨v1, v2, v3, v4⟩, _⟩ := kinds_ne
  exact wrongK_of (by simp [kinds5]) ⟨by decide +kernel, by decide +kernel, by decide +kernel⟩ (fun z => absurd z v1) (fun z => absurd z v2) (fun _ => ⟨.inr rfl, by decide +kernel, .inl (by decide +kernel), by decide +kernel⟩) (fun z => absurd z v3) (fun z => absurd z v4)
/-- a wrong sign within -/
theorem wrong_sign {kind : Str} (hk : kind ∈ kinds5) {w : List Nat} (h : RW kind w) {c : Nat} (hc : c ∈ (lacksK kind).cps.toList) (n : Nat) : WrongK kind (w.take n ++ [c] ++ (w.take 39).drop n) := by
  have all5 : ∀ kind ∈ kinds5, ∀ c ∈ (lacksK kind).cps.toList, c ≠ 10 ∧ c < 256 ∧ isLetterN c = false ∧ c ≠ 105 ∧ c ≠ 110 := by decide +kernel
  obtain ⟨c1, c2, c3, c4, c5⟩ := all5 kind hk c hc
  have no : ∀ x, x ≠ c → x ∉ w → x ∉ w.take n ++ [c] ++ (w.take 39).drop n := fun x hx hw z => by
    simp only [List.mem_append, List.mem_singleton] at z
    rcases z with (z | z) | z
    · exact hw (List.mem_of_mem_take z)
    · exact hx z
    · exact hw (List.mem_of_mem_take (List.mem_of_mem_drop z))
  have fr : ∀ x, (x ≠ 113 ∧ x ∉ cs "abZ_09-/:@.") → x ≠ c → x ∉ w.take n ++ [c] ++ (w.take 39).drop n := fun x hw hx => no x hx (h.free hw)
  have hin : c ∈ w.take n ++ [c] ++ (w.take 39).drop n := by simp
  have ww : WW (w.take n ++ [c] ++ (w.take 39).drop n) := ⟨fr 10 (by decide +kernel) c1.symm, fun x hx => by
    simp only [List.mem_append, List.mem_singleton] at hx
    rcases hx with (z | z) | z
    · exact h.lt x (List.mem_of_mem_take z)
    · omega
    · exact h.lt x (List.mem_of_mem_take (List.mem_of_mem_drop z)), by
      have := h.len
      simp only [List.length_append, List.length_take, List.length_drop, List.length_singleton]
      omega⟩
  have two : 44 ∉ w.take n ++ [c] ++ (w.take 39).drop n ∨ 32 ∉ w.take n ++ [c] ++ (w.take 39).drop n := by
    by_cases z : c = 44
    · exact .inr (fr 32 (by decide +kernel) (by omega))
    · exact .inl (fr 44 (by decide +kernel) fun q => z q.symm)
  have hash : kind ∈ plainKs → c = 35 → ∃ p q, w.take n ++ [c] ++ (w.take 39).drop n = p ++ 35 :: q ∧ ∀ c ∈ p, okG c := fun hp z => ⟨w.take n, (w.take 39).drop n, by rw [z]; simp, fun x hx => okG_of hp h x (List.mem_of_mem_take hx)⟩
  have pbad : (∀ c ∈ (lacksK kind).cps.toList, c ∉ (Str.ofString "_").cps.toList) → isPlainS (ofL (w.take n ++ [c] ++ (w.take 39).drop n)) = false := fun hp => plain_bad (signs_bad hin c3 (hp c hc))
  refine wrongK_of hk ww (fun e => ?_) (fun e => ?_) (fun e => ?_) (fun e => ?_) (fun e => ?_)
  · subst e
    by_cases z : c = 35
    · exact .inl (hash sK z)
    · have f : ∀ c ∈ (lacksK "section").cps.toList, c ≠ 46 := by decide +kernel
      exact .inr ⟨pbad (by decide +kernel), fr 35 (by decide +kernel) fun q => z q.symm, no 46 (f c hc).symm (h.free2 sK (by decide +kernel))⟩
  · subst e
    by_cases z : c = 35
    · exact .inl (hash pK z)
    · exact .inr ⟨pbad (by decide +kernel), fr 35 (by decide +kernel) fun q => z q.symm, fr 105 (by decide +kernel) c4.symm⟩
  · subst e
    have f : ∀ c ∈ (lacksK "value").cps.toList, c ≠ 35 ∧ c ∉ (Str.ofString "_-/").cps.toList := by decide +kernel
    exact ⟨.inl (signs_bad hin c3 (f c hc).2), fr 35 (by decide +kernel) (f c hc).1.symm, two, pre_not (fr 110 (by decide +kernel) c5.symm)⟩
  · subst e
    have f : ∀ c ∈ (lacksK "key").cps.toList, c ≠ 35 ∧ c ≠ 32 := by decide +kernel
    exact ⟨key_bad (pbad (by decide +kernel)), fr 35 (by decide +kernel) (f c hc).1.symm, fr 32 (by decide +kernel) (f c hc).2.symm⟩
  · subst e
    have f : ∀ c ∈ (lacksK "item").cps.toList, c ≠ 35 ∧ c ∉ itemSigns.cps.toList := by decide +kernel
    exact ⟨item_bad (signs_bad hin c3 (f c hc).2), fr 35 (by decide +kernel) (f c hc).1.symm, two⟩
theorem cut_two (l : List Nat) (n m : Nat) : cutS (ofL l) (some ((n : Nat) : Int)) (some ((m : Nat) : Int)) = ofL ((l.take m).drop n) := by
  unfold cutS
  rw [ofL_l, ofL_len]
  simp only [HT.sIx_nat]
  show ofL _ = _
  congr 1
  rw [List.drop_take]
  by_cases hn : n ≤ l.length
  · rw [Nat.min_eq_left hn]
    by_cases hm : m ≤ l.length
    · rw [Nat.min_eq_left hm]
    · rw [Nat.min_eq_right (by omega), List.take_of_length_le (by rw [List.length_drop]; exact Nat.le_refl _), List.take_of_length_le (by rw [List.length_drop]; omega)]
  · rw [Nat.min_eq_right (show l.length ≤ n by omega), List.drop_eq_nil_of_le (Nat.le_refl _), List.drop_eq_nil_of_le (show l.length ≤ n by omega)]
    simp
theorem cut_take (l : List Nat) (m : Nat) : cutS (ofL l) none (some ((m : Nat) : Int)) = ofL (l.take m) := by
  have h := cut_two l 0 m
  rw [List.drop_zero] at h
  rw [← h]
  unfold cutS
  simp only [HT.sIx_none, HT.sIx_nat, Nat.zero_min]
theorem getP_disp : ∀ (kvs : List (Str × Str)) (z : Str), getP (dispD kvs) (.inr z) = (kvs.lookup z).map PyData.str
  | [], z => rfl
  | (k, v) :: r, z => by
    rw [List.lookup_cons]
    unfold getP dispD
    rw [List.map_cons, List.find?_cons]
    cases e : (z == k) with
    | true =>
      rw [beq_iff_eq] at e
      subst e
      simp
    | false =>
      have hne : ¬ z = k := by simpa using e
      have hd : decide ((Sum.inr k : Key) = Sum.inr z) = false := decide_eq_false fun q => hne (Sum.inr.inj q).symm
      simp only [hd]
      exact getP_disp r z
def fs__law_wrong_word : FS := fun as Q _ => ∃ (row : List Int) (k : Int) (w : List Nat) (kind : Str), as = [.v (.list (row.map .int)), .cell [.int k], .v (codeD w), .v (.str kind)] ∧ 0 < row.length ∧ 0 ≤ k ∧ kind ∈ kinds5 ∧ RW kind w ∧
  ∀ (w' : List Nat) (k' : Int), 0 ≤ k' → WrongK kind w' → Q (.d (codeD w')) [[.int k']]
theorem l__law_wrong_word : ∀ as Q X, fs__law_wrong_word as Q X → as.length = 4 := by rintro as Q X ⟨_, _, _, _, rfl, _⟩; rfl
theorem m__law_wrong_word : ∀ as Q X, fs__law_wrong_word as Q X → w__law_wrong_word (as ++ List.replicate 6 Sl.no) (endP 4 Q X) := by
  rintro as Q X ⟨row, k, w, kind, rfl, hr, hk, hkind, hw, h⟩
  have big : ∀ {n : Nat}, n ≤ 1000000 → n ≤ sizeLine := fun h => Nat.le_trans h (by decide)
  have main : ∀ D : Sl, w__law_wrong_word_9 [.v (.list (row.map .int)), .cell [.int k], .v (codeD w), .v (.str kind), D, .v (.str (lacksK kind)), .no, .no, .no, .no] (endP 4 Q X) := by
    intro D
    dsimp! only [w__law_wrong_word_9, fs__law_take]
    refine ⟨row, k, _, ⟨rfl, rfl, rfl⟩, hr, hk, by decide, fun st s0 s1 => ?_⟩
    have wl := hw.len
    have ll : (ofL w).length = w.length := ofL_len w
    have app : ∀ x y : List Nat, ofL x ++ ofL y = ofL (x ++ y) := fun x y => ofL_append ..
    obtain ⟨kn0, kn1, kn2, kn3, kn4⟩ := kinds_ne
    have eB : ∀ a b : Str, a ≠ b → (a == b) = false := fun a b h => by simpa using h
    by_cases st0 : st = 0
    · subst st0
      have e : (41 - ((ofL w).length : Int)) = ((41 - w.length : Nat) : Int) := by omega
      dsimp! only [w__law_wrong_word_8, e, show ((0 : Int) == 0) = true from rfl]
      refine ⟨big (by omega), ⟨by omega, by omega⟩, ?_, ?_⟩
      · rw [Int.toNat_natCast, rangeL_map, List.length_map, List.length_range]
        exact Nat.lt_of_le_of_lt (show _ ≤ 1000 by omega) (by decide)
      refine lcI_mapE (List.range (41 - w.length)) (fun (i : Nat) => PyData.int (0 + i)) (fun _ => PyData.str (Str.ofString "b")) (by rw [Int.toNat_natCast]; exact rangeL_map ..) (fun i hi Kn kn => by dsimp! only [lcS]; exact kn) ?_
      have es : strsD ((List.range (41 - w.length)).map fun _ => PyData.str (Str.ofString "b")) = some ((List.replicate (41 - w.length) [98]).map ofL) := by
        have : ((List.range (41 - w.length)).map fun _ => PyData.str (Str.ofString "b")) = (List.replicate (41 - w.length) [98]).map codeD := by
          rw [List.map_replicate]
          rw [show codeD [98] = PyData.str (Str.ofString "b") from by rw [show Str.ofString "b" = ofL [98] from by decide +kernel]]
          refine List.ext_getElem (by simp) fun i h1 h2 => by simp
        rw [this, strsD_codes]
      refine ⟨_, es, ?_, ?_, ?_⟩
      · have h0 : (Str.ofString "").length = 0 := by decide +kernel
        rw [h0, List.map_map, List.map_replicate]
        simp [Str.length, ofL]
        omega
      · have ej : Txt.join (Str.ofString "") ((List.replicate (41 - w.length) [98]).map ofL) = ofL (List.replicate (41 - w.length) 98) := by
          rw [join_glue, cs_empty, glue_nil]
          congr 1
          generalize 41 - w.length = n
          induction n with
          | zero => rfl
          | succ n ih => rw [List.replicate_succ, List.flatten_cons, ih, List.replicate_succ]; rfl
        rw [ej, ofL_len, ofL_len, List.length_replicate]
        exact big (by omega)
      · have ej : Txt.join (Str.ofString "") ((List.replicate (41 - w.length) [98]).map ofL) = ofL (List.replicate (41 - w.length) 98) := by
          rw [join_glue, cs_empty, glue_nil]
          congr 1
          generalize 41 - w.length = n
          induction n with
          | zero => rfl
          | succ n ih => rw [List.replicate_succ, List.flatten_cons, ih, List.replicate_succ]; rfl
        rw [ej, app]
        exact h _ _ (by omega) (wrong_long hkind hw)
    have e0 : (st == 0) = false := by simpa using st0
    dsimp! only [w__law_wrong_word_8, e0]
    by_cases st1 : st = 1
    · subst st1
      dsimp! only [w__law_wrong_word_7, show ((1 : Int) == 1) = true from rfl]
      have := h [] (k + 1) (by omega) (wrong_none hkind)
      exact this
    have e1 : (st == 1) = false := by simpa using st1
    dsimp! only [w__law_wrong_word_7, e1]
    have last : w__law_wrong_word_3 [.v (.list (row.map .int)), .cell [.int (k + 1)], .v (codeD w), .v (.str kind), D, .v (.str (lacksK kind)), .v (.int st), .no, .no, .no] (endP 4 Q X) := by
      have lk : 1 ≤ (lacksK kind).length ∧ (lacksK kind).length ≤ 100 := by
        have : ∀ kind ∈ kinds5, 1 ≤ (lacksK kind).length ∧ (lacksK kind).length ≤ 100 := by decide +kernel
        exact this kind hkind
      dsimp! only [w__law_wrong_word_3, w__law_wrong_word_2, w__law_wrong_word_1, fs__law_take, ll]
      refine ⟨big (by omega), row, _, _, ⟨rfl, rfl, rfl⟩, hr, by omega, by omega, fun n n0 n1 => ?_⟩
      obtain ⟨n, rfl⟩ : ∃ m : Nat, n = (m : Int) := ⟨n.toNat, by omega⟩
      refine ⟨big (by omega), row, _, _, ⟨rfl, rfl, rfl⟩, hr, by omega, by omega, fun j j0 j1 => ?_⟩
      have jl : j.toNat < (lacksK kind).cps.toList.length := by simp only [Array.length_toList]; unfold Str.length at j1; omega
      have ha := atI_nat (xs := (lacksK kind).cps.toList) (k := j.toNat) (x := (lacksK kind).cps.toList[j.toNat]) (List.getElem?_eq_getElem jl)
      rw [show ((j.toNat : Nat) : Int) = j by omega] at ha
      have hm : (lacksK kind).cps.toList[j.toNat] ∈ (lacksK kind).cps.toList := List.getElem_mem jl
      generalize (lacksK kind).cps.toList[j.toNat] = c at ha hm
      have l1 : (cutS (ofL w) none (some (n : Int))).length ≤ 40 := by rw [cut_take, ofL_len, List.length_take]; omega
      have e3 : cutS (ofL w) (some (n : Int)) (some 39) = ofL ((w.take 39).drop n) := cut_two w n 39
      have l2 : (cutS (ofL w) none (some (n : Int)) ++ sg c).length ≤ 41 := by
        rw [cut_take, show sg c = ofL [c] from rfl, app, ofL_len, List.length_append, List.length_take]
        simp; omega
      have l3 : (cutS (ofL w) (some (n : Int)) (some 39)).length ≤ 40 := by
        rw [e3, ofL_len, List.length_drop, List.length_take]; omega
      have l4 : (sg c).length = 1 := rfl
      refine ⟨big (by omega), c, ha, big (by omega), big (by omega), big (by omega), big (by omega), ?_⟩
      rw [e3, cut_take, show sg c = ofL [c] from rfl, app, app]
      exact h _ _ (by omega) (wrong_sign hkind hw hm n)
    have in2 : inD (.str kind) [PyData.str (Str.ofString "plain"), .str (Str.ofString "section")] = decide (kind ∈ (["plain", "section"] : List Str)) := inD_strs kind ["plain", "section"]
    have fl2 : [PyData.str (Str.ofString "plain"), PyData.str (Str.ofString "section")].all flat = true := flat_strs ["plain", "section"]
    by_cases st2 : st = 2
    · subst st2
      have two : w__law_wrong_word_6 [.v (.list (row.map .int)), .cell [.int (k + 1)], .v (codeD w), .v (.str kind), D, .v (.str (lacksK kind)), .v (.int 2), .no, .no, .no] (endP 4 Q X) := by
        by_cases hK : kind = "key"
        · subst hK
          dsimp! only [w__law_wrong_word_6, fs__law_take, show ((2 : Int) == 2) = true from rfl, beq_self_eq_true]
          refine ⟨by decide, row, _, _, ⟨rfl, rfl, rfl⟩, hr, by omega, by decide, fun j j0 j1 => ?_⟩
          obtain ⟨x, hx, hax⟩ := atI_map (fun s : String => PyData.str (Str.ofString s)) ["unset", "lock", "when", "end"] j0 (by simpa using j1)
          refine ⟨_, hax, ?_⟩
          rw [← ofL_cs]
          exact h _ _ (by omega) (wrong_res hx)
        have eK := eB _ _ hK
        dsimp! only [w__law_wrong_word_6, show ((2 : Int) == 2) = true from rfl, eK]
        by_cases hp : kind = "section" ∨ kind = "plain"
        · have hd : decide (kind ∈ (["plain", "section"] : List Str)) = true := decide_eq_true (by rcases hp with z | z <;> simp [z])
          dsimp! only [w__law_wrong_word_5, show ((2 : Int) == 2) = true from rfl, in2, fl2, hd, flat_str]
          have e1 : cutS (ofL w) (some 1) none = ofL (w.drop 1) := drop_sl w 1
          have e9 : Str.ofString "9" = ofL [57] := by decide +kernel
          rw [e1, e9, app, ofL_len, ofL_len, ofL_len]
          refine ⟨by decide, big (by omega), big (by simp; omega), ?_⟩
          exact h _ _ (by omega) (wrong_fig hp hw)
        · have hd : decide (kind ∈ (["plain", "section"] : List Str)) = false := decide_eq_false (fun z => hp (by
            simp only [List.mem_cons, List.not_mem_nil, or_false] at z
            exact z.symm))
          dsimp! only [w__law_wrong_word_5, w__law_wrong_word_4, show ((2 : Int) == 2) = true from rfl, in2, fl2, hd, flat_str]
          refine ⟨by decide, ?_⟩
          by_cases hi : kind = "item"
          · subst hi
            dsimp! only [beq_self_eq_true]
            have e1 : cutS (ofL w) none (some 39) = ofL (w.take 39) := cut_take w 39
            have e9 : Str.ofString "." = ofL [46] := by decide +kernel
            rw [e1, e9, app, ofL_len, ofL_len, ofL_len]
            refine ⟨big (by omega), big (by simp; omega), ?_⟩
            exact h _ _ (by omega) (wrong_dot hw)
          · dsimp! only [eB _ _ hi]
            have hv : kind = "value" := by
              simp only [kinds5, List.mem_cons, List.not_mem_nil, or_false] at hkind
              rcases hkind with z | z | z | z | z
              · exact absurd (.inl z) hp
              · exact absurd (.inr z) hp
              · exact z
              · exact absurd z hK
              · exact absurd z hi
            subst hv
            rw [← ofL_cs]
            exact h _ _ (by omega) wrong_not
      exact two
    have e2 : (st == 2) = false := by simpa using st2
    dsimp! only [w__law_wrong_word_6, w__law_wrong_word_5, w__law_wrong_word_4, e2]
    exact last
  dsimp! only [w__law_wrong_word, wDisp]
  dsimp! only [w__law_wrong_word_10, wRepl, wDget]
  by_cases hK : kind = "key"
  · have main' := fun D => main D
    rw [if_pos (by rw [hK]; decide +kernel)]
    refine ⟨_, rfl, .inr "plain", rfl, .str plainLacks, by rw [getP_disp]; rfl, plainLacks, rfl, by decide +kernel, ?_⟩
    · rw [show Txt.replace (cutS plainLacks (some 1) none) (Str.ofString "#") (Str.ofString "") = lacksK kind from by rw [hK]; decide +kernel]
      exact main _
  · rw [if_neg (by simpa using hK)]
    refine ⟨_, rfl, .inr kind, rfl, .str (lacksK kind), ?_, main _⟩
    rw [getP_disp]
    simp only [kinds5, List.mem_cons, List.not_mem_nil, or_false] at hkind
    have f : ∀ kind ∈ (["section", "plain", "value", "item"] : List Str), List.lookup kind [(Str.ofString "plain", Str.ofString " !\"#$&'()*+,-./:;<=>?\x40[\\]^`{|}~"), (Str.ofString "section", Str.ofString " !\"#$&'()*+,-/:;<=>?\x40[\\]^`{|}~"), (Str.ofString "value", Str.ofString " !\"$&'()*+,.:;<=>?\x40[\\]^`{|}~"), (Str.ofString "item", Str.ofString " !\"$&'()*+,;<=>?[\\]^`{|}~")] = some (lacksK kind) := by decide +kernel
    rw [f kind (by
      rcases hkind with z | z | z | z | z
      · simp [z]
      · simp [z]
      · simp [z]
      · exact absurd z hK
      · simp [z])]
    rfl

def w__law_words_line_1 : WS := (wRet (wBin fAdd (wBin fAdd (wBin fAdd (wBin fAdd (wBin fAdd (wBin fIx (wBor 0) (wC (PyData.int 0))) (wC (PyData.str " "))) (wBin fIx (wLst (wCons (wC (PyData.str "=")) (wCons (wC (PyData.str "+=")) (wCons (wC (PyData.str "^=")) (wCons (wC (PyData.str "-=")) (wCons (wC (PyData.str "?=")) wNil)))))) (wVar 2))) (wC (PyData.str " "))) (wBin fIx (wBor 0) (wC (PyData.int 1)))) (wC (PyData.str ", zz"))))
def w__law_words_line_2 : WS := (wSeq (wIfS (wB (wBin fEq (wBor 1) (wC (PyData.int 3)))) (wRet (wBin fAdd (wBin fIx (wLst (wCons (wC (PyData.str "unset ")) (wCons (wC (PyData.str "lock ")) wNil))) (wBin fMod (wBor 2) (wC (PyData.int 2)))) (wBin fIx (wBor 0) (wC (PyData.int 0))))) wNext) w__law_words_line_1)
def w__law_words_line_3 : WS := (wSeq (wIfS (wB (wBin fEq (wBor 1) (wC (PyData.int 2)))) (wRet (wBin fAdd (wBin fAdd (wBin fAdd (wC (PyData.str "when ")) (wBin fIx (wBor 0) (wC (PyData.int 0)))) (wC (PyData.str " is not zz, "))) (wBin fIx (wBor 0) (wC (PyData.int 1))))) wNext) w__law_words_line_2)
def w__law_words_line_4 : WS := (wSeq (wIfS (wB (wBin fEq (wBor 1) (wC (PyData.int 1)))) (wRet (wBin fAdd (wBin fAdd (wBin fAdd (wBin fAdd (wC (PyData.str "when ")) (wBin fIx (wBor 0) (wC (PyData.int 0)))) (wC (PyData.str " is "))) (wBin fIx (wBor 0) (wC (PyData.int 1)))) (wC (PyData.str ", zz")))) wNext) w__law_words_line_3)
def w__law_words_line : WS := (wSeq (wIfS (wB (wBin fEq (wBor 1) (wC (PyData.int 0)))) (wRet (wBin fAdd (wBin fAdd (wBin fAdd (wBin fAdd (wC (PyData.str "[")) (wBin fIx (wBor 0) (wC (PyData.int 0)))) (wC (PyData.str "."))) (wBin fIx (wBor 0) (wC (PyData.int 1)))) (wC (PyData.str "]")))) wNext) w__law_words_line_4)


/-- the line of the two words -/
def fs__law_words_line : FS := fun as Q _ => ∃ (a b : List Nat) (kind sign : Nat), as = [.v (.list [codeD a, codeD b]), .v (.int kind), .v (.int sign)] ∧ kind ≤ 4 ∧ sign ≤ 4 ∧ a.length ≤ 1000 ∧ b.length ≤ 1000 ∧ Q (.d (codeD (lineK kind sign a b))) []
theorem l__law_words_line : ∀ as Q X, fs__law_words_line as Q X → as.length = 3 := by rintro as Q X ⟨_, _, _, _, rfl, _⟩; rfl
theorem m__law_words_line : ∀ as Q X, fs__law_words_line as Q X → w__law_words_line (as ++ List.replicate 0 Sl.no) (endP 3 Q X) := by
  rintro as Q X ⟨a, b, kind, sign, rfl, hk, hs, ha, hb, h⟩
  have big : ∀ {n : Nat}, n ≤ 1000000 → n ≤ sizeLine := fun h => Nat.le_trans h (by decide)
  have i0 : atI [codeD a, codeD b] 0 = some (codeD a) := rfl
  have i1 : atI [codeD a, codeD b] 1 = some (codeD b) := rfl
  have app : ∀ x y : List Nat, ofL x ++ ofL y = ofL (x ++ y) := fun x y => ofL_append ..
  have ll : ∀ x : List Nat, (ofL x).length = x.length := ofL_len
  have c0 : cs "[" = [91] := by decide +kernel
  have c1 : cs "." = [46] := by decide +kernel
  have c2 : cs "]" = [93] := by decide +kernel
  have n0 : (cs "when ").length = 5 := by decide +kernel
  have n1 : (cs " is ").length = 4 := by decide +kernel
  have n2 : (cs ", zz").length = 4 := by decide +kernel
  have n3 : (cs " is not zz, ").length = 12 := by decide +kernel
  obtain rfl | rfl | rfl | rfl | rfl : kind = 0 ∨ kind = 1 ∨ kind = 2 ∨ kind = 3 ∨ kind = 4 := by omega
  · dsimp! only [w__law_words_line, show ((((0 : Nat) : Int)) == 0) = true from rfl, i0, i1, codeD, ← ofL_cs, app, ll]
    have e : cs "[" ++ a ++ cs "." ++ b ++ cs "]" = lineK 0 sign a b := by
      show _ = secLine (a ++ 46 :: b)
      unfold secLine
      rw [c0, c1, c2]
      simp
    rw [e]
    simp only [List.length_append, c0, c1, c2, List.length_cons, List.length_nil]
    exact ⟨big (by omega), big (by omega), big (by omega), big (by omega), h⟩
  · dsimp! only [w__law_words_line, w__law_words_line_4, show ((((1 : Nat) : Int)) == 0) = false from rfl, show ((((1 : Nat) : Int)) == 1) = true from rfl, i0, i1, codeD, ← ofL_cs, app, ll]
    have e : cs "when " ++ a ++ cs " is " ++ b ++ cs ", zz" = lineK 1 sign a b := by
      show _ = cs "when " ++ (a ++ (cs " is " ++ (b ++ cs ", zz")))
      simp
    rw [e]
    simp only [List.length_append, n0, n1, n2]
    exact ⟨big (by omega), big (by omega), big (by omega), big (by omega), h⟩
  · dsimp! only [w__law_words_line, w__law_words_line_4, w__law_words_line_3, show ((((2 : Nat) : Int)) == 0) = false from rfl, show ((((2 : Nat) : Int)) == 1) = false from rfl, show ((((2 : Nat) : Int)) == 2) = true from rfl, i0, i1, codeD, ← ofL_cs, app, ll]
    have e : cs "when " ++ a ++ cs " is not zz, " ++ b = lineK 2 sign a b := by
      show _ = cs "when " ++ (a ++ (cs " is " ++ (cs "not zz, " ++ b)))
      rw [show cs " is not zz, " = cs " is " ++ cs "not zz, " from by decide +kernel]
      simp
    rw [e]
    simp only [List.length_append, n0, n3]
    exact ⟨big (by omega), big (by omega), big (by omega), h⟩
  · have hm : ∃ s : String, atI [PyData.str (Str.ofString "unset "), .str (Str.ofString "lock ")] ((sign : Int) % 2) = some (.str (Str.ofString s)) ∧ cs s ++ a = lineK 3 sign a b ∧ (cs s).length ≤ 6 := by
      by_cases hz : sign % 2 = 0
      · refine ⟨"unset ", ?_, ?_, by decide +kernel⟩
        · rw [show ((sign : Int) % 2) = ((0 : Nat) : Int) by omega]; rfl
        · show _ = cs (if sign % 2 = 0 then "unset" else "lock") ++ 32 :: a
          rw [if_pos hz, show cs "unset " = cs "unset" ++ [32] from by decide +kernel]
          simp
      · refine ⟨"lock ", ?_, ?_, by decide +kernel⟩
        · rw [show ((sign : Int) % 2) = ((1 : Nat) : Int) by omega]; rfl
        · show _ = cs (if sign % 2 = 0 then "unset" else "lock") ++ 32 :: a
          rw [if_neg hz, show cs "lock " = cs "lock" ++ [32] from by decide +kernel]
          simp
    obtain ⟨s, h1, h2, h3⟩ := hm
    dsimp! only [w__law_words_line, w__law_words_line_4, w__law_words_line_3, w__law_words_line_2, show ((((3 : Nat) : Int)) == 0) = false from rfl, show ((((3 : Nat) : Int)) == 1) = false from rfl, show ((((3 : Nat) : Int)) == 2) = false from rfl, show ((((3 : Nat) : Int)) == 3) = true from rfl, i0]
    refine ⟨by decide, by decide, _, h1, ?_⟩
    dsimp! only [codeD, ← ofL_cs, app, ll]
    rw [h2]
    exact ⟨big (by omega), h⟩
  · have hm : atI [PyData.str (Str.ofString "="), .str (Str.ofString "+="), .str (Str.ofString "^="), .str (Str.ofString "-="), .str (Str.ofString "?=")] (sign : Int) = some (.str (Str.ofString (opS.getD sign "="))) := by
      obtain rfl | rfl | rfl | rfl | rfl : sign = 0 ∨ sign = 1 ∨ sign = 2 ∨ sign = 3 ∨ sign = 4 := by omega
      all_goals rfl
    have ol := (ops_ok _ (op_mem sign)).2.2.2.2.2.2.2.2.2
    dsimp! only [w__law_words_line, w__law_words_line_4, w__law_words_line_3, w__law_words_line_2, w__law_words_line_1, show ((((4 : Nat) : Int)) == 0) = false from rfl, show ((((4 : Nat) : Int)) == 1) = false from rfl, show ((((4 : Nat) : Int)) == 2) = false from rfl, show ((((4 : Nat) : Int)) == 3) = false from rfl, i0, i1]
    dsimp! only [codeD, ← ofL_cs, app, ll]
    simp only [ofL_cs]
    have n4 : (cs " ").length = 1 := by decide +kernel
    have e : a ++ cs " " ++ cs (opS.getD sign "=") ++ cs " " ++ b ++ cs ", zz" = lineK 4 sign a b := by
      show _ = a ++ 32 :: (cs (opS.getD sign "=") ++ 32 :: (b ++ cs ", zz"))
      rw [show cs " " = [32] from by decide +kernel]
      simp
    refine ⟨big (by omega), by decide, _, hm, ?_⟩
    dsimp! only [← ofL_cs, app, ll]
    rw [e]
    simp only [List.length_append, n2, n4]
    exact ⟨big (by omega), big (by omega), big (by omega), big (by omega), h⟩

mutual
def noL : PyData → Bool
  | .list _ => false
  | .dict _ => false
  | .tuple l => noLs l
  | _ => true
def noLs : List PyData → Bool
  | [] => true
  | x :: xs => noL x && noLs xs
end
theorem noLs_iff : ∀ {l : List PyData}, noLs l = true ↔ ∀ x ∈ l, noL x = true
  | [] => by simp [noLs]
  | x :: xs => by simp [noLs, noLs_iff (l := xs)]
theorem noL_tup {l : List PyData} (h : noL (.tuple l) = true) : ∀ x ∈ l, noL x = true := noLs_iff.mp (by simpa [noL] using h)
theorem tup_noL {l : List PyData} (h : ∀ x ∈ l, noL x = true) : noL (.tuple l) = true := by simp only [noL]; exact noLs_iff.mpr h
theorem noL_txs (xs : List Str) : noL (.tuple (txs xs)) = true := tup_noL fun d hd => by
  obtain ⟨s, _, rfl⟩ := List.mem_map.mp hd
  rfl



mutual
theorem so_same : ∀ d : PyData, noL d = true → soD d d = true
  | .tuple l, h => by simp only [soD]; exact so_sames l (by simpa only [noL] using h)
  | .none, _ => by simp only [soD]; rfl
  | .bool _, _ => by simp only [soD, beq_self_eq_true]
  | .int _, _ => by simp only [soD, beq_self_eq_true]
  | .str _, _ => by simp only [soD, beq_self_eq_true]
  | .list _, h => by simp [noL] at h
  | .dict _, h => by simp [noL] at h
theorem so_sames : ∀ l : List PyData, noLs l = true → soAll l l = true
  | [], _ => by simp [soAll]
  | x :: l, h => by
    simp only [noLs, Bool.and_eq_true] at h
    simp only [soAll, so_same x h.1, so_sames l h.2, Bool.and_self]
end


theorem x_law_1 : ∃ w : WS, w = (wApp 7 (wBin fAdd (wSl fSl (wBor 9) wNone (wSome (wBin fSub (wPrim fLen (wCons (wBor 9) wNil)) (wC (PyData.int 1))))) (wC (PyData.str "q")))) := ⟨_, rfl⟩
noncomputable def w_law_1 : WS := Classical.choose x_law_1
theorem e_law_1 : w_law_1 = (wApp 7 (wBin fAdd (wSl fSl (wBor 9) wNone (wSome (wBin fSub (wPrim fLen (wCons (wBor 9) wNil)) (wC (PyData.int 1))))) (wC (PyData.str "q")))) := Classical.choose_spec x_law_1
theorem x_law_2 : ∃ w : WS, w = (wSeq (wSet (wCall (fs__law_long_word) (wCons (wVar 1) (wCons (wBor 2) (wCons (wDget (wBor 6) (wVar 8)) wNil)))) 9) w_law_1) := ⟨_, rfl⟩
noncomputable def w_law_2 : WS := Classical.choose x_law_2
theorem e_law_2 : w_law_2 = (wSeq (wSet (wCall (fs__law_long_word) (wCons (wVar 1) (wCons (wBor 2) (wCons (wDget (wBor 6) (wVar 8)) wNil)))) 9) w_law_1) := Classical.choose_spec x_law_2
theorem x_law_3 : ∃ w : WS, w = (wIfS (wNotT (wB (wCall (fs__law_so) (wCons (wBin fIx (wCall (fs_statements) (wCons (wBin fAdd (wBin fAdd (wC (PyData.str "y = a\n")) (wBor 10)) (wC (PyData.str "\n"))) wNil)) (wC (PyData.int 1))) (wCons (wVar 12) wNil))))) (wRet (wC (PyData.bool false))) wNext) := ⟨_, rfl⟩
noncomputable def w_law_3 : WS := Classical.choose x_law_3
theorem e_law_3 : w_law_3 = (wIfS (wNotT (wB (wCall (fs__law_so) (wCons (wBin fIx (wCall (fs_statements) (wCons (wBin fAdd (wBin fAdd (wC (PyData.str "y = a\n")) (wBor 10)) (wC (PyData.str "\n"))) wNil)) (wC (PyData.int 1))) (wCons (wVar 12) wNil))))) (wRet (wC (PyData.bool false))) wNext) := Classical.choose_spec x_law_3
theorem x_law_4 : ∃ w : WS, w = (wRet (wAndV (wCall (fs__law_so) (wCons (wCall (fs_is_text) (wCons (wVar 15) wNil)) (wCons (wC (PyData.bool false)) wNil))) (wBin fEq (wCall (fs__law_text_fault) (wCons (wC (PyData.int 2)) (wCons (wVar 15) wNil))) (wTup (wCons (wC (PyData.str "line")) (wCons (wC (PyData.int 0)) (wCons (wC (PyData.int 1)) wNil))))))) := ⟨_, rfl⟩
noncomputable def w_law_4 : WS := Classical.choose x_law_4
theorem e_law_4 : w_law_4 = (wRet (wAndV (wCall (fs__law_so) (wCons (wCall (fs_is_text) (wCons (wVar 15) wNil)) (wCons (wC (PyData.bool false)) wNil))) (wBin fEq (wCall (fs__law_text_fault) (wCons (wC (PyData.int 2)) (wCons (wVar 15) wNil))) (wTup (wCons (wC (PyData.str "line")) (wCons (wC (PyData.int 0)) (wCons (wC (PyData.int 1)) wNil))))))) := Classical.choose_spec x_law_4
theorem x_law_5 : ∃ w : WS, w = (wSeq (wIfS (wB (wBin fNe (wBor 11) (wC (PyData.str "")))) (wSet (wSl fSl (wBor 15) wNone (wSome (wBin fSub (wPrim fLen (wCons (wBor 15) wNil)) (wC (PyData.int 4))))) 15) wNext) w_law_4) := ⟨_, rfl⟩
noncomputable def w_law_5 : WS := Classical.choose x_law_5
theorem e_law_5 : w_law_5 = (wSeq (wIfS (wB (wBin fNe (wBor 11) (wC (PyData.str "")))) (wSet (wSl fSl (wBor 15) wNone (wSome (wBin fSub (wPrim fLen (wCons (wBor 15) wNil)) (wC (PyData.int 4))))) 15) wNext) w_law_4) := Classical.choose_spec x_law_5
theorem x_law_6 : ∃ w : WS, w = (wSeq (wSet (wBin fAdd (wBin fAdd (wBin fAdd (wC (PyData.str "y = a\n")) (wCall (fs__law_words_line) (wCons (wVar 14) (wCons (wVar 3) (wCons (wVar 4) wNil))))) (wC (PyData.str "\n"))) (wBor 11)) 15) w_law_5) := ⟨_, rfl⟩
noncomputable def w_law_6 : WS := Classical.choose x_law_6
theorem e_law_6 : w_law_6 = (wSeq (wSet (wBin fAdd (wBin fAdd (wBin fAdd (wC (PyData.str "y = a\n")) (wCall (fs__law_words_line) (wCons (wVar 14) (wCons (wVar 3) (wCons (wVar 4) wNil))))) (wC (PyData.str "\n"))) (wBor 11)) 15) w_law_5) := Classical.choose_spec x_law_6
theorem x_law_7 : ∃ w : WS, w = (wSeq (wSetIx 14 (wCall (fs__law_wrong_word) (wCons (wVar 1) (wCons (wBor 2) (wCons (wBin fIx (wBor 7) (wVar 13)) (wCons (wBin fIx (wBor 5) (wVar 13)) wNil))))) (wVar 13)) w_law_6) := ⟨_, rfl⟩
noncomputable def w_law_7 : WS := Classical.choose x_law_7
theorem e_law_7 : w_law_7 = (wSeq (wSetIx 14 (wCall (fs__law_wrong_word) (wCons (wVar 1) (wCons (wBor 2) (wCons (wBin fIx (wBor 7) (wVar 13)) (wCons (wBin fIx (wBor 5) (wVar 13)) wNil))))) (wVar 13)) w_law_6) := Classical.choose_spec x_law_7
theorem x_law_8 : ∃ w : WS, w = (wSeq (wSet (wPrim fToLst (wCons (wBor 7) wNil)) 14) w_law_7) := ⟨_, rfl⟩
noncomputable def w_law_8 : WS := Classical.choose x_law_8
theorem e_law_8 : w_law_8 = (wSeq (wSet (wPrim fToLst (wCons (wBor 7) wNil)) 14) w_law_7) := Classical.choose_spec x_law_8
theorem x_law_9 : ∃ w : WS, w = (wSeq (wSet (wCall (fs__law_take) (wCons (wVar 1) (wCons (wBor 2) (wCons (wIf (wB (wBin fEq (wBor 3) (wC (PyData.int 3)))) (wC (PyData.int 1)) (wC (PyData.int 2))) wNil)))) 13) w_law_8) := ⟨_, rfl⟩
noncomputable def w_law_9 : WS := Classical.choose x_law_9
theorem e_law_9 : w_law_9 = (wSeq (wSet (wCall (fs__law_take) (wCons (wVar 1) (wCons (wBor 2) (wCons (wIf (wB (wBin fEq (wBor 3) (wC (PyData.int 3)))) (wC (PyData.int 1)) (wC (PyData.int 2))) wNil)))) 13) w_law_8) := Classical.choose_spec x_law_9
theorem x_law_10 : ∃ w : WS, w = (wSeq (wIfS (wB (wBin fEq (wBor 3) (wC (PyData.int 4)))) (wSeq (wSet (wTup (wCons (wC (PyData.int 1)) (wCons (wBin fIx (wBor 7) (wC (PyData.int 0))) (wCons (wBin fIx (wLst (wCons (wC (PyData.str "set")) (wCons (wC (PyData.str "append")) (wCons (wC (PyData.str "prepend")) (wCons (wC (PyData.str "drop")) (wCons (wC (PyData.str "default")) wNil)))))) (wVar 4)) (wCons (wTup (wCons (wBin fIx (wBor 7) (wC (PyData.int 1))) (wCons (wC (PyData.str "zz")) wNil))) (wCons (wTup wNil) wNil)))))) 12) w_law_3) wNext) w_law_9) := ⟨_, rfl⟩
noncomputable def w_law_10 : WS := Classical.choose x_law_10
theorem e_law_10 : w_law_10 = (wSeq (wIfS (wB (wBin fEq (wBor 3) (wC (PyData.int 4)))) (wSeq (wSet (wTup (wCons (wC (PyData.int 1)) (wCons (wBin fIx (wBor 7) (wC (PyData.int 0))) (wCons (wBin fIx (wLst (wCons (wC (PyData.str "set")) (wCons (wC (PyData.str "append")) (wCons (wC (PyData.str "prepend")) (wCons (wC (PyData.str "drop")) (wCons (wC (PyData.str "default")) wNil)))))) (wVar 4)) (wCons (wTup (wCons (wBin fIx (wBor 7) (wC (PyData.int 1))) (wCons (wC (PyData.str "zz")) wNil))) (wCons (wTup wNil) wNil)))))) 12) w_law_3) wNext) w_law_9) := Classical.choose_spec x_law_10
theorem x_law_11 : ∃ w : WS, w = (wSeq (wIfS (wNotT (wB (wCall (fs__law_so) (wCons (wCall (fs_is_text) (wCons (wBin fAdd (wBin fAdd (wBin fAdd (wC (PyData.str "y = a\n")) (wBor 10)) (wC (PyData.str "\n"))) (wBor 11)) wNil)) (wCons (wC (PyData.bool true)) wNil))))) (wRet (wC (PyData.bool false))) wNext) w_law_10) := ⟨_, rfl⟩
noncomputable def w_law_11 : WS := Classical.choose x_law_11
theorem e_law_11 : w_law_11 = (wSeq (wIfS (wNotT (wB (wCall (fs__law_so) (wCons (wCall (fs_is_text) (wCons (wBin fAdd (wBin fAdd (wBin fAdd (wC (PyData.str "y = a\n")) (wBor 10)) (wC (PyData.str "\n"))) (wBor 11)) wNil)) (wCons (wC (PyData.bool true)) wNil))))) (wRet (wC (PyData.bool false))) wNext) w_law_10) := Classical.choose_spec x_law_11
theorem x_law_12 : ∃ w : WS, w = (wSeq (wSet (wIf (wB (wBin (fIn false) (wBor 3) (wLst (wCons (wC (PyData.int 1)) (wCons (wC (PyData.int 2)) wNil))))) (wC (PyData.str "end\n")) (wC (PyData.str ""))) 11) w_law_11) := ⟨_, rfl⟩
noncomputable def w_law_12 : WS := Classical.choose x_law_12
theorem e_law_12 : w_law_12 = (wSeq (wSet (wIf (wB (wBin (fIn false) (wBor 3) (wLst (wCons (wC (PyData.int 1)) (wCons (wC (PyData.int 2)) wNil))))) (wC (PyData.str "end\n")) (wC (PyData.str ""))) 11) w_law_11) := Classical.choose_spec x_law_12
theorem x_law_13 : ∃ w : WS, w = (wSeq (wSet (wCall (fs__law_words_line) (wCons (wVar 7) (wCons (wVar 3) (wCons (wVar 4) wNil)))) 10) w_law_12) := ⟨_, rfl⟩
noncomputable def w_law_13 : WS := Classical.choose x_law_13
theorem e_law_13 : w_law_13 = (wSeq (wSet (wCall (fs__law_words_line) (wCons (wVar 7) (wCons (wVar 3) (wCons (wVar 4) wNil)))) 10) w_law_12) := Classical.choose_spec x_law_13
theorem x_law_14 : ∃ w : WS, w = (wSeq (wFor (wIt (wVar 5)) (.n 8) w_law_2) w_law_13) := ⟨_, rfl⟩
noncomputable def w_law_14 : WS := Classical.choose x_law_14
theorem e_law_14 : w_law_14 = (wSeq (wFor (wIt (wVar 5)) (.n 8) w_law_2) w_law_13) := Classical.choose_spec x_law_14
theorem x_law_15 : ∃ w : WS, w = (wSeq (wSet (wLst wNil) 7) w_law_14) := ⟨_, rfl⟩
noncomputable def w_law_15 : WS := Classical.choose x_law_15
theorem e_law_15 : w_law_15 = (wSeq (wSet (wLst wNil) 7) w_law_14) := Classical.choose_spec x_law_15
theorem x_law_16 : ∃ w : WS, w = (wSeq (wSet (wDisp [("section", "abZ_09"), ("plain", "abZ_09"), ("key", "abZ_09"), ("value", "abZ_09-/"), ("item", "abZ_09-/:@.")]) 6) w_law_15) := ⟨_, rfl⟩
noncomputable def w_law_16 : WS := Classical.choose x_law_16
theorem e_law_16 : w_law_16 = (wSeq (wSet (wDisp [("section", "abZ_09"), ("plain", "abZ_09"), ("key", "abZ_09"), ("value", "abZ_09-/"), ("item", "abZ_09-/:@.")]) 6) w_law_15) := Classical.choose_spec x_law_16
theorem x_law_17 : ∃ w : WS, w = (wSeq (wSet (wBin fIx (wLst (wCons (wTup (wCons (wC (PyData.str "section")) (wCons (wC (PyData.str "section")) wNil))) (wCons (wTup (wCons (wC (PyData.str "plain")) (wCons (wC (PyData.str "value")) wNil))) (wCons (wTup (wCons (wC (PyData.str "plain")) (wCons (wC (PyData.str "value")) wNil))) (wCons (wTup (wCons (wC (PyData.str "key")) (wCons (wC (PyData.str "key")) wNil))) (wCons (wTup (wCons (wC (PyData.str "key")) (wCons (wC (PyData.str "item")) wNil))) wNil)))))) (wVar 3)) 5) w_law_16) := ⟨_, rfl⟩
noncomputable def w_law_17 : WS := Classical.choose x_law_17
theorem e_law_17 : w_law_17 = (wSeq (wSet (wBin fIx (wLst (wCons (wTup (wCons (wC (PyData.str "section")) (wCons (wC (PyData.str "section")) wNil))) (wCons (wTup (wCons (wC (PyData.str "plain")) (wCons (wC (PyData.str "value")) wNil))) (wCons (wTup (wCons (wC (PyData.str "plain")) (wCons (wC (PyData.str "value")) wNil))) (wCons (wTup (wCons (wC (PyData.str "key")) (wCons (wC (PyData.str "key")) wNil))) (wCons (wTup (wCons (wC (PyData.str "key")) (wCons (wC (PyData.str "item")) wNil))) wNil)))))) (wVar 3)) 5) w_law_16) := Classical.choose_spec x_law_17
theorem x_law_18 : ∃ w : WS, w = (wSeq (wSet (wCall (fs__law_take) (wCons (wVar 1) (wCons (wBor 2) (wCons (wC (PyData.int 5)) wNil)))) 4) w_law_17) := ⟨_, rfl⟩
noncomputable def w_law_18 : WS := Classical.choose x_law_18
theorem e_law_18 : w_law_18 = (wSeq (wSet (wCall (fs__law_take) (wCons (wVar 1) (wCons (wBor 2) (wCons (wC (PyData.int 5)) wNil)))) 4) w_law_17) := Classical.choose_spec x_law_18
theorem x_law_19 : ∃ w : WS, w = (wSeq (wSet (wCall (fs__law_take) (wCons (wVar 1) (wCons (wBor 2) (wCons (wC (PyData.int 5)) wNil)))) 3) w_law_18) := ⟨_, rfl⟩
noncomputable def w_law_19 : WS := Classical.choose x_law_19
theorem e_law_19 : w_law_19 = (wSeq (wSet (wCall (fs__law_take) (wCons (wVar 1) (wCons (wBor 2) (wCons (wC (PyData.int 5)) wNil)))) 3) w_law_18) := Classical.choose_spec x_law_19
theorem x_law_20 : ∃ w : WS, w = (wSeq (wSet (wLst (wCons (wC (PyData.int 0)) wNil)) 2) w_law_19) := ⟨_, rfl⟩
noncomputable def w_law_20 : WS := Classical.choose x_law_20
theorem e_law_20 : w_law_20 = (wSeq (wSet (wLst (wCons (wC (PyData.int 0)) wNil)) 2) w_law_19) := Classical.choose_spec x_law_20
theorem x_law : ∃ w : WS, w = (wSeq (wSet (wCall (fs__law_numbers) (wCons (wVar 0) wNil)) 1) w_law_20) := ⟨_, rfl⟩
noncomputable def w_law : WS := Classical.choose x_law
theorem e_law : w_law = (wSeq (wSet (wCall (fs__law_numbers) (wCons (wVar 0) wNil)) 1) w_law_20) := Classical.choose_spec x_law

def fs_law : FS := fun as Q _ => ∃ ns : List Int, as = [.v (.list (ns.map .int))] ∧ Q (.d (.bool true)) []
theorem l_law : ∀ as Q X, fs_law as Q X → as.length = 1 := by rintro as Q X ⟨_, rfl, _⟩; rfl
theorem law_true (ns : List Int) (hl : ns.length ≤ 63) : fs_law [.v (.list (ns.map .int))] (fun r _ => r = .d (.bool true)) (fun _ => False) := ⟨ns, rfl, rfl⟩
def kindD (k : Nat) : PyData := .tuple [.str (kindL k).1, .str (kindL k).2]
def signsL : List (Str × Str) := [("section", "abZ_09"), ("plain", "abZ_09"), ("key", "abZ_09"), ("value", "abZ_09-/"), ("item", "abZ_09-/:@.")]
theorem kinds5_L (k : Nat) : (kindL k).1 ∈ kinds5 ∧ (kindL k).2 ∈ kinds5 := by
  match k with
  | 0 => exact ⟨by simp [kindL, kinds5], by simp [kindL, kinds5]⟩
  | 1 => exact ⟨by simp [kindL, kinds5], by simp [kindL, kinds5]⟩
  | 2 => exact ⟨by simp [kindL, kinds5], by simp [kindL, kinds5]⟩
  | 3 => exact ⟨by simp [kindL, kinds5], by simp [kindL, kinds5]⟩
  | n + 4 => exact ⟨by simp [kindL, kinds5], by simp [kindL, kinds5]⟩
theorem long_rw {kind : Str} {t : List Nat} (h : t.length ≤ 39) (hc : ∀ c ∈ t, c = 90 ∨ c = 95 ∨ c ∈ sgK kind) : RW kind ((97 :: t).dropLast ++ [113]) := by
  have sub : ∀ k : Str, 97 ∈ sgK k ∧ 90 ∈ sgK k ∧ 95 ∈ sgK k := fun k => by
    unfold sgK
    split
    · decide +kernel
    · split
      · decide +kernel
      · decide +kernel
  obtain ⟨s1, s2, s3⟩ := sub kind
  refine ⟨fun c hm => ?_, ?_, by simp, ?_⟩
  · rcases List.mem_append.mp hm with z | z
    · rcases List.mem_cons.mp (List.dropLast_subset _ z) with y | y
      · exact .inr (by rw [y]; exact s1)
      · rcases hc c y with x | x | x
        · exact .inr (by rw [x]; exact s2)
        · exact .inr (by rw [x]; exact s3)
        · exact .inr x
    · exact .inl (List.mem_singleton.mp z)
  · rw [List.length_append, List.length_dropLast, List.length_cons, List.length_singleton]
    omega
  · cases t with
    | nil => exact ⟨113, [], rfl, .inr rfl⟩
    | cons x t => exact ⟨97, (x :: t).dropLast ++ [113], rfl, .inl rfl⟩
theorem sK_eq (z : Str) : ofL (sgK z) = ofL (sgK z) := rfl
def yB : Body → Bool
  | .st k w is => decide (k = cs "y") && (decide (w = "set") && decide (is = [cs "a"]))
  | _ => false
theorem y_body : bodyB (cs "y = a") = .st (cs "y") "set" [cs "a"] := by
  have h : yB (bodyB (cs "y = a")) = true := by decide +kernel
  cases e : bodyB (cs "y = a") with
  | st k w is =>
    rw [e] at h
    unfold yB at h
    simp only [Bool.and_eq_true, decide_eq_true_eq] at h
    rw [h.1, h.2.1, h.2.2]
  | _ => rw [e] at h; cases h
def tlL (kind : Nat) : List (List Nat) := if kind = 1 ∨ kind = 2 then [cs "end"] else []
theorem end_body : bodyB (cs "end") = .fin := by rw [body_clean (by decide +kernel) (by decide +kernel), told_end]
theorem code_y : codesOk (cs "y = a") := ⟨by decide +kernel, by decide +kernel, by decide +kernel⟩
theorem code_end : codesOk (cs "end") := ⟨by decide +kernel, by decide +kernel, by decide +kernel⟩
theorem text_three (l : List Nat) (kind : Nat) : Str.ofString "y = a\n" ++ ofL l ++ Str.ofString "\n" ++ (if kind = 1 ∨ kind = 2 then Str.ofString "end\n" else Str.ofString "") = ofL (textL ([cs "y = a", l] ++ tlL kind)) := by
  have e1 : Str.ofString "y = a\n" = ofL (cs "y = a" ++ [10]) := by decide +kernel
  have e2 : Str.ofString "\n" = ofL [10] := by decide +kernel
  have e3 : Str.ofString "end\n" = ofL (cs "end" ++ [10]) := by decide +kernel
  have e4 : Str.ofString "" = ofL [] := by decide +kernel
  have app : ∀ x y : List Nat, ofL x ++ ofL y = ofL (x ++ y) := fun x y => ofL_append ..
  unfold tlL
  split
  · rw [e1, e2, e3, app, app, app]
    simp [textL]
  · rw [e1, e2, e4, app, app, app]
    simp [textL]
structure Tx (W : List (List Nat)) : Prop where
  ok : okS (ofL (textL W)) = true
  sh : shortL (textL W)
  len : (linesL (textL W)).length ≤ 10
theorem tx_of {W : List (List Nat)} (h : ∀ l ∈ W, codesOk l) (hl : W.length ≤ 10) : Tx W := by
  have e := linesL_text fun l hl => (h l hl).1
  have hlen := textL_len fun l hl => (h l hl).2.2
  refine ⟨okS_ofL (textL_codes h) (by omega), fun p hp => ?_, by rw [e]; exact hl⟩
  rw [e] at hp
  have := (h p hp).2.2
  omega
theorem lineK_codes {kind sign : Nat} {a b : List Nat} (ha : 10 ∉ a ∧ (∀ c ∈ a, c < 256) ∧ a.length ≤ 41) (hb : 10 ∉ b ∧ (∀ c ∈ b, c < 256) ∧ b.length ≤ 41) : codesOk (lineK kind sign a b) := by
  obtain ⟨a1, a2, a3⟩ := ha
  obtain ⟨b1, b2, b3⟩ := hb
  obtain ⟨_, _, _, _, _, _, _, o1, o2, o3⟩ := ops_ok _ (op_mem sign)
  have cc : ∀ s ∈ ["when ", " is ", ", zz", "not zz, ", "unset", "lock"], 10 ∉ cs s ∧ (∀ c ∈ cs s, c < 256) ∧ (cs s).length ≤ 10 := by decide +kernel
  have u := cc (if sign % 2 = 0 then "unset" else "lock") (by split <;> simp)
  have w1 := cc "when " (by simp)
  have w2 := cc " is " (by simp)
  have w3 := cc ", zz" (by simp)
  have w4 := cc "not zz, " (by simp)
  have key : ∀ l : List Nat, (10 ∉ l ∧ (∀ c ∈ l, c < 256)) → l.length ≤ 2500 → codesOk l := fun l h hl => ⟨h.1, fun c hc => by have := h.2 c hc; omega, hl⟩
  have ap : ∀ {x y : List Nat}, (10 ∉ x ∧ ∀ c ∈ x, c < 256) → (10 ∉ y ∧ ∀ c ∈ y, c < 256) → (10 ∉ x ++ y ∧ ∀ c ∈ x ++ y, c < 256) := fun hx hy => ⟨fun z => (List.mem_append.mp z).elim hx.1 hy.1, fun c z => (List.mem_append.mp z).elim (hx.2 c) (hy.2 c)⟩
  have co : ∀ {x : Nat} {y : List Nat}, (x ≠ 10 ∧ x < 256) → (10 ∉ y ∧ ∀ c ∈ y, c < 256) → (10 ∉ x :: y ∧ ∀ c ∈ x :: y, c < 256) := fun hx hy => ⟨fun z => (List.mem_cons.mp z).elim (fun q => hx.1 q.symm) hy.1, fun c z => (List.mem_cons.mp z).elim (fun q => by rw [q]; exact hx.2) (hy.2 c)⟩
  have A := And.intro a1 a2
  have B := And.intro b1 b2
  have nil : (10 : Nat) ∉ ([] : List Nat) ∧ ∀ c ∈ ([] : List Nat), c < 256 := ⟨by simp, by simp⟩
  match kind with
  | 0 => exact key _ (co ⟨by decide, by decide⟩ (ap (ap A (co ⟨by decide, by decide⟩ B)) (co ⟨by decide, by decide⟩ nil))) (by simp [lineK, secLine]; omega)
  | 1 => exact key _ (ap ⟨w1.1, w1.2.1⟩ (ap A (ap ⟨w2.1, w2.2.1⟩ (ap B ⟨w3.1, w3.2.1⟩)))) (by simp only [lineK, List.length_append]; omega)
  | 2 => exact key _ (ap ⟨w1.1, w1.2.1⟩ (ap A (ap ⟨w2.1, w2.2.1⟩ (ap ⟨w4.1, w4.2.1⟩ B)))) (by simp only [lineK, List.length_append]; omega)
  | 3 => exact key _ (ap ⟨u.1, u.2.1⟩ (co ⟨by decide, by decide⟩ A)) (by simp only [lineK, List.length_append, List.length_cons]; omega)
  | n + 4 => exact key _ (ap A (co ⟨by decide, by decide⟩ (ap ⟨o1, o2⟩ (co ⟨by decide, by decide⟩ (ap B ⟨w3.1, w3.2.1⟩))))) (by simp only [lineK, List.length_append, List.length_cons]; omega)
theorem RW.cds {kind : Str} {w : List Nat} (h : RW kind w) : 10 ∉ w ∧ (∀ c ∈ w, c < 256) ∧ w.length ≤ 41 := ⟨h.free (by decide +kernel), h.lt, by have := h.len; omega⟩
theorem WrongK.cds {kind : Str} {w : List Nat} (h : WrongK kind w) : 10 ∉ w ∧ (∀ c ∈ w, c < 256) ∧ w.length ≤ 41 := ⟨h.1.nl, h.1.codes, h.1.len⟩
theorem m_law : ∀ as Q X, fs_law as Q X → w_law (as ++ List.replicate 15 Sl.no) (endP 1 Q X) := by
  rintro as Q X ⟨ns, rfl, h⟩
  have big : ∀ {n : Nat}, n ≤ 1000000 → n ≤ sizeLine := fun h => Nat.le_trans h (by decide)
  have app : ∀ x y : List Nat, ofL x ++ ofL y = ofL (x ++ y) := fun x y => ofL_append ..
  rw [e_law]
  dsimp! only [fs__law_numbers]
  refine ⟨ns, rfl, fun row hr _ => ?_⟩
  rw [e_law_20]
  dsimp! only [id_eq]
  refine ⟨by decide, ?_⟩
  rw [e_law_19]
  dsimp! only [fs__law_take]
  refine ⟨row, 0, _, ⟨rfl, rfl, rfl⟩, hr, by omega, by decide, fun kind k0 k1 => ?_⟩
  obtain ⟨kind, rfl⟩ : ∃ m : Nat, kind = (m : Int) := ⟨kind.toNat, by omega⟩
  have hk4 : kind ≤ 4 := by omega
  rw [e_law_18]
  dsimp! only [fs__law_take]
  refine ⟨row, _, _, ⟨rfl, rfl, rfl⟩, hr, by omega, by decide, fun sign s0 s1 => ?_⟩
  obtain ⟨sign, rfl⟩ : ∃ m : Nat, sign = (m : Int) := ⟨sign.toNat, by omega⟩
  have hs4 : sign ≤ 4 := by omega
  have hat : atI [PyData.tuple [.str (Str.ofString "section"), .str (Str.ofString "section")], .tuple [.str (Str.ofString "plain"), .str (Str.ofString "value")], .tuple [.str (Str.ofString "plain"), .str (Str.ofString "value")], .tuple [.str (Str.ofString "key"), .str (Str.ofString "key")], .tuple [.str (Str.ofString "key"), .str (Str.ofString "item")]] (kind : Int) = some (kindD kind) := by
    obtain rfl | rfl | rfl | rfl | rfl : kind = 0 ∨ kind = 1 ∨ kind = 2 ∨ kind = 3 ∨ kind = 4 := by omega
    all_goals rfl
  rw [e_law_17]
  dsimp! only [hat]
  refine ⟨by decide, by decide, by decide, by decide, by decide, by decide, ?_⟩
  have hget : ∀ z ∈ kinds5, getP (dispD [(Str.ofString "section", Str.ofString "abZ_09"), (Str.ofString "plain", Str.ofString "abZ_09"), (Str.ofString "key", Str.ofString "abZ_09"), (Str.ofString "value", Str.ofString "abZ_09-/"), (Str.ofString "item", Str.ofString "abZ_09-/:\x40.")]) (.inr z) = some (.str (ofL (sgK z))) := by
    intro z hz
    rw [getP_disp]
    have f : ∀ z ∈ kinds5, List.lookup z [(Str.ofString "section", Str.ofString "abZ_09"), (Str.ofString "plain", Str.ofString "abZ_09"), (Str.ofString "key", Str.ofString "abZ_09"), (Str.ofString "value", Str.ofString "abZ_09-/"), (Str.ofString "item", Str.ofString "abZ_09-/:\x40.")] = some (ofL (sgK z)) := by decide +kernel
    rw [f z hz]
    rfl
  rw [e_law_16]
  dsimp! only [wDisp]
  generalize dispD [(Str.ofString "section", Str.ofString "abZ_09"), (Str.ofString "plain", Str.ofString "abZ_09"), (Str.ofString "key", Str.ofString "abZ_09"), (Str.ofString "value", Str.ofString "abZ_09-/"), (Str.ofString "item", Str.ofString "abZ_09-/:\x40.")] = D at hget ⊢
  rw [e_law_15]
  dsimp! only [id_eq]
  have eki : kindD kind = .tuple [.str (kindL kind).1, .str (kindL kind).2] := rfl
  rw [e_law_14]
  dsimp! only [eki]
  refine ⟨by decide, ?_⟩
  refine forI_E [(kindL kind).1, (kindL kind).2] PyData.str (fun pre Γ => ∃ (ws : List (List Nat)) (j : Int) (e8 e9 : Sl), Γ = [.v (.list (ns.map .int)), .v (.list (row.map .int)), .own [.int j], .v (.int (kind : Nat)), .v (.int (sign : Nat)), .v (.tuple [.str (kindL kind).1, .str (kindL kind).2]), .v (dicD D), .own (ws.map codeD), e8, e9, .no, .no, .no, .no, .no, .no] ∧ nc e8 ∧ nc e9 ∧ 0 ≤ j ∧ ws.length = pre.length ∧ ∀ p ∈ pre.zip ws, RW p.1 p.2) rfl ⟨[], 0 + 1 + 1, .no, .no, rfl, trivial, trivial, by omega, rfl, by simp⟩ ?_ ?_
  · rintro pre x post hxm hq ⟨ws, j, e8, e9, rfl, n8, n9, hj, hl, hw⟩ N hN
    have hx5 : x ∈ kinds5 := by
      have h2 := kinds5_L kind
      have : x ∈ [(kindL kind).1, (kindL kind).2] := by rw [hq]; simp
      simp only [List.mem_cons, List.not_mem_nil, or_false] at this
      rcases this with z | z
      · rw [z]; exact h2.1
      · rw [z]; exact h2.2
    have sl : 1 ≤ (ofL (sgK x)).length ∧ (ofL (sgK x)).length ≤ 20 := by
      have : ∀ z ∈ kinds5, 1 ≤ (ofL (sgK z)).length ∧ (ofL (sgK z)).length ≤ 20 := by decide +kernel
      exact this x hx5
    rw [e_law_2]
    dsimp! only [fs__law_long_word, wDget, n8, n9]
    refine ⟨_, rfl, .inr x, rfl, _, hget x hx5, row, j, _, ⟨rfl, rfl, rfl⟩, hr, hj, by omega, by omega, fun t k' hk' ht hc => ?_⟩
    rw [ofL_l] at hc
    have ec : cutS (ofL (97 :: t)) none (some (((97 :: t).length : Int) - 1)) = ofL (97 :: t).dropLast := cutS_init _ (by simp)
    have eq1 : Str.ofString "q" = ofL [113] := by decide +kernel
    rw [e_law_1]
    dsimp! only [id_eq]
    rw [ofL_len, ec, eq1, app, ofL_len, ofL_len]
    have hpl : pre.length ≤ 2 := by
      have := congrArg List.length hq
      simp at this
      omega
    have t1 : (97 :: t).length ≤ 40 := by rw [List.length_cons]; omega
    have t2 : (97 :: t).dropLast.length ≤ 40 := by rw [List.length_dropLast]; omega
    have t3 : ([113] : List Nat).length = 1 := rfl
    refine ⟨⟨_, rfl⟩, big (by omega), big (by omega), big (by omega), Nat.lt_of_le_of_lt (show (ws.map codeD).length ≤ 2 by rw [List.length_map, hl]; exact hpl) (by decide), hN _ ⟨ws ++ [(97 :: t).dropLast ++ [113]], k', .v (.str x), .v (.str (ofL (97 :: t))), by simp, trivial, trivial, hk', by simp [hl], ?_⟩⟩
    intro p hp
    rw [List.zip_append hl.symm] at hp
    rcases List.mem_append.mp hp with z | z
    · exact hw p z
    · simp only [List.zip_cons_cons, List.zip_nil_left, List.mem_singleton] at z
      subst z
      exact long_rw ht hc
  rintro _ ⟨ws, j, e8, e9, rfl, n8, n9, hj, hl, hw⟩
  obtain ⟨a, b, rfl⟩ : ∃ a b, ws = [a, b] := by
    match ws, hl with
    | [a, b], _ => exact ⟨a, b, rfl⟩
  have hA : RW (kindL kind).1 a := hw ((kindL kind).1, a) (by simp)
  have hB : RW (kindL kind).2 b := hw ((kindL kind).2, b) (by simp)
  have la := hA.len
  have lb := hB.len
  show w_law_13 _ _
  rw [e_law_13]
  dsimp! only [fs__law_words_line]
  refine ⟨a, b, kind, sign, ⟨rfl, rfl, rfl⟩, hk4, hs4, by omega, by omega, ?_⟩
  have CL := lineK_codes (kind := kind) (sign := sign) hA.cds hB.cds
  have LG := line_good (kind := kind) (sign := sign) hA hB
  obtain ⟨L, hL⟩ : ∃ L, L = lineK kind sign a b := ⟨_, rfl⟩
  rw [← hL] at CL LG ⊢
  have in2 : inD (.int (kind : Int)) [PyData.int 1, .int 2] = decide (kind = 1 ∨ kind = 2) := by
    obtain rfl | rfl | rfl | rfl | rfl : kind = 0 ∨ kind = 1 ∨ kind = 2 ∨ kind = 3 ∨ kind = 4 := by omega
    all_goals rfl
  have eleven : ∀ T : Str, T = (if kind = 1 ∨ kind = 2 then Str.ofString "end\n" else Str.ofString "") → w_law_11 [.v (.list (ns.map .int)), .v (.list (row.map .int)), .own [.int j], .v (.int (kind : Nat)), .v (.int (sign : Nat)), .v (.tuple [.str (kindL kind).1, .str (kindL kind).2]), .v (dicD D), .v (.list [codeD a, codeD b]), e8, e9, .v (codeD L), .v (.str T), .no, .no, .no, .no] (endP 1 Q X) := by
    intro T hT
    have tl : T.length ≤ 4 := by rw [hT]; split <;> decide +kernel
    have hLl : (ofL L).length ≤ 2500 := by rw [ofL_len]; exact CL.2.2
    have y6 : (Str.ofString "y = a\n").length = 6 := by decide +kernel
    have n1 : (Str.ofString "\n").length = 1 := by decide +kernel
    have e3 := text_three L kind
    have sal : ∀ x y : Str, (x ++ y).length = x.length + y.length := fun x y => by
      rw [← ofL_of x, ← ofL_of y, app, ofL_len, ofL_len, ofL_len, List.length_append]
    rw [← hT] at e3
    have TW : Tx ([cs "y = a", L] ++ tlL kind) := tx_of (fun l hl' => by
      unfold tlL at hl'
      simp only [List.mem_append, List.mem_cons, List.not_mem_nil, or_false] at hl'
      rcases hl' with (rfl | rfl) | z
      · exact code_y
      · exact CL
      · split at z
        · rw [List.mem_singleton.mp z]; exact code_end
        · cases z) (by unfold tlL; split <;> simp)
    have w10 : ∀ l ∈ [cs "y = a", L] ++ tlL kind, 10 ∉ l := fun l hl' => by
      unfold tlL at hl'
      simp only [List.mem_append, List.mem_cons, List.not_mem_nil, or_false] at hl'
      rcases hl' with (rfl | rfl) | z
      · exact code_y.1
      · exact CL.1
      · split at z
        · rw [List.mem_singleton.mp z]; exact code_end.1
        · cases z
    have f : firstBad (textL ([cs "y = a", L] ++ tlL kind)) = .none := by
      rw [first_rows w10]
      have : scanB 0 ([], []) (([cs "y = a", L] ++ tlL kind).map bodyB) = ([], []) := by
        simp only [List.map_append, List.map_cons, List.map_nil, y_body, LG]
        obtain rfl | rfl | rfl | rfl | rfl : kind = 0 ∨ kind = 1 ∨ kind = 2 ∨ kind = 3 ∨ kind = 4 := by omega
        · rfl
        · simp only [tlL, end_body, true_or, if_true, List.map_cons, List.map_nil]; rfl
        · simp only [tlL, end_body, or_true, if_true, List.map_cons, List.map_nil]; rfl
        · rfl
        · rfl
      rw [this]
      rfl
    have tgood : isTextL (textL ([cs "y = a", L] ++ tlL kind)) = true := by
      unfold isTextL
      rw [f, decide_eq_true (show (linesL (textL ([cs "y = a", L] ++ tlL kind))).length ≤ 2000 by have := TW.len; omega)]
      rfl
    have hT1 : ∀ (l : List Nat), okS (ofL l) = true → shortL l → ∀ (Q : R → List (List PyData) → Prop) (X : XN → Prop), Q (.d (.bool (isTextL l))) [] → fs_is_text [.v (codeD l)] Q X := fun l ok sh Q X q =>
      ⟨_, rfl, by simpa [okD] using ok, fun l' e => by
        have : l = l' := ofL_inj (by injection e)
        rw [← this]; exact sh, by
        show Q (.d (.bool (isTextL (ofL l).cps.toList))) []
        rw [ofL_l]; exact q⟩
    have hF : ∀ (l : List Nat) (y : PyData), okS (ofL l) = true → shortL l → toldX (textX (codeD l) 1) y → ∀ (Q : R → List (List PyData) → Prop) (X : XN → Prop), Q (.d y) [] → fs__law_text_fault [.v (.int 2), .v (codeD l)] Q X := fun l y ok sh ht Q X q =>
      ⟨2, _, y, rfl, by simpa [okD] using ok, q, .inr (.inr ⟨rfl, ht, fun l' e => by
        have : l = l' := ofL_inj (by injection e)
        rw [← this]; exact sh⟩)⟩
    have nine : ∀ E : Sl, nc E → w_law_9 [.v (.list (ns.map .int)), .v (.list (row.map .int)), .own [.int j], .v (.int (kind : Nat)), .v (.int (sign : Nat)), .v (.tuple [.str (kindL kind).1, .str (kindL kind).2]), .v (dicD D), .v (.list [codeD a, codeD b]), e8, e9, .v (codeD L), .v (.str T), E, .no, .no, .no] (endP 1 Q X) := by
      intro E nE
      have eight : ∀ (at_ : Nat) (j' : Int), 0 ≤ j' → at_ = 0 ∨ (at_ = 1 ∧ kind ≠ 3) → w_law_8 [.v (.list (ns.map .int)), .v (.list (row.map .int)), .own [.int j'], .v (.int (kind : Nat)), .v (.int (sign : Nat)), .v (.tuple [.str (kindL kind).1, .str (kindL kind).2]), .v (dicD D), .v (.list [codeD a, codeD b]), e8, e9, .v (codeD L), .v (.str T), E, .v (.int (at_ : Nat)), .no, .no] (endP 1 Q X) := by
        intro at_ j' hj' hat_
        have hwk : ∃ (z : Str) (w : List Nat), atI [PyData.str (kindL kind).1, .str (kindL kind).2] ((at_ : Nat) : Int) = some (.str z) ∧ atI [codeD a, codeD b] ((at_ : Nat) : Int) = some (codeD w) ∧ z ∈ kinds5 ∧ RW z w ∧
            ∀ w', WrongK z w' → ∃ a' b', ixN 2 ((at_ : Nat) : Int) = some at_ ∧ [codeD a, codeD b].set at_ (codeD w') = [codeD a', codeD b'] ∧ bodyB (lineK kind sign a' b') = .no ∧ codesOk (lineK kind sign a' b') ∧ a'.length ≤ 1000 ∧ b'.length ≤ 1000 := by
          rcases hat_ with rfl | ⟨rfl, h3⟩
          · refine ⟨_, a, rfl, rfl, (kinds5_L kind).1, hA, fun w' hw' => ⟨w', b, rfl, rfl, line_no0 hw' hB, lineK_codes hw'.cds hB.cds, by have := hw'.cds.2.2; omega, by omega⟩⟩
          · refine ⟨_, b, rfl, rfl, (kinds5_L kind).2, hB, fun w' hw' => ⟨a, w', rfl, rfl, line_no1 h3 hA hw', lineK_codes hA.cds hw'.cds, by omega, by have := hw'.cds.2.2; omega⟩⟩
        obtain ⟨z, w, hz, hw0, hz5, hRW, hset⟩ := hwk
        rw [e_law_8]
        dsimp! only [id_eq]
        rw [e_law_7]
        dsimp! only [fs__law_wrong_word, hz, hw0]
        refine ⟨row, j', w, z, ⟨rfl, rfl, rfl, rfl⟩, hr, hj', hz5, hRW, fun w' k' hk' hw' => ?_⟩
        obtain ⟨a', b', s1, s2, s3, s4, s5, s6⟩ := hset w' hw'
        refine ⟨⟨_, rfl⟩, at_, s1, ?_⟩
        rw [s2]
        rw [e_law_6]
        dsimp! only [fs__law_words_line]
        refine ⟨a', b', kind, sign, ⟨rfl, rfl, rfl⟩, hk4, hs4, s5, s6, ?_⟩
        obtain ⟨L', hL'⟩ : ∃ L', L' = lineK kind sign a' b' := ⟨_, rfl⟩
        rw [← hL'] at s3 s4 ⊢
        have hLl' : (ofL L').length ≤ 2500 := by rw [ofL_len]; exact s4.2.2
        have e3' := text_three L' kind
        rw [← hT] at e3'
        rw [e3']
        refine ⟨big (by omega), big (by rw [sal]; omega), big (by rw [sal, sal]; omega), ?_⟩
        have TB : Tx [cs "y = a", L'] := tx_of (fun l hl' => by
          simp only [List.mem_cons, List.not_mem_nil, or_false] at hl'
          rcases hl' with rfl | rfl
          · exact code_y
          · exact s4) (by simp)
        have b10 : ∀ l ∈ [cs "y = a", L'], 10 ∉ l := fun l hl' => by
          simp only [List.mem_cons, List.not_mem_nil, or_false] at hl'
          rcases hl' with rfl | rfl
          · exact code_y.1
          · exact s4.1
        have fb : firstBad (textL [cs "y = a", L']) = .int 1 := by
          rw [first_rows b10]
          simp only [List.map_cons, List.map_nil, y_body, s3]
          rfl
        have tbad : isTextL (textL [cs "y = a", L']) = false := by
          unfold isTextL
          rw [fb]
          simp [isNone]
        have four : ∀ V : PyData, V = codeD (textL [cs "y = a", L']) → w_law_4 [.v (.list (ns.map .int)), .v (.list (row.map .int)), .own [.int k'], .v (.int (kind : Nat)), .v (.int (sign : Nat)), .v (.tuple [.str (kindL kind).1, .str (kindL kind).2]), .v (dicD D), .v (.list [codeD a, codeD b]), e8, e9, .v (codeD L), .v (.str T), E, .v (.int (at_ : Nat)), .v (.list [codeD a', codeD b']), .v V] (endP 1 Q X) := by
          rintro V rfl
          have okLine : okS (Str.ofString "line") = true := by decide +kernel
          have okln : okD (.tuple [.str (Str.ofString "line"), .int 0, .int 1]) = true := by decide +kernel
          have sdln : sd (.tuple [.str (Str.ofString "line"), .int 0, .int 1]) := ⟨okln, by decide⟩
          rw [e_law_4]
          dsimp! only [id_eq]
          refine hT1 _ TB.ok TB.sh _ _ ?_
          rw [tbad]
          dsimp! only [fs__law_so, fsr__law_so]
          refine ⟨_, _, ⟨rfl, rfl⟩, by simp [PyData.depth], rfl, ?_⟩
          rw [so_same _ rfl]
          dsimp! only [id_eq]
          refine hF _ (.tuple [.str (Str.ofString "line"), .int 0, .int 1]) TB.ok TB.sh (by
            rw [textX_line fb (by have := TB.len; omega)]
            exact errX.line 0 (.int 1)) _ _ ?_
          dsimp! only [id_eq]
          refine ⟨by decide, eqOk_sd sdln sdln, ?_⟩
          rw [show PyData.eqv (.tuple [.str (Str.ofString "line"), .int 0, .int 1]) (.tuple [.str (Str.ofString "line"), .int 0, .int 1]) = true from by simp [PyData.eqv, PyData.eqvAll]]
          exact h
        have hLt : (textL (cs "y = a" :: L' :: tlL kind)).length ≤ 10000 := by
          have e : (ofL (textL ([cs "y = a", L'] ++ tlL kind))).length = (Str.ofString "y = a\n").length + (ofL L').length + (Str.ofString "\n").length + T.length := by
            rw [← e3', sal, sal, sal]
          rw [ofL_len] at e
          have e2 : cs "y = a" :: L' :: tlL kind = [cs "y = a", L'] ++ tlL kind := rfl
          rw [e2]
          omega
        rw [e_law_5]
        dsimp! only [id_eq]
        by_cases hc : kind = 1 ∨ kind = 2
        · have eT : (!T == Str.ofString "") = true := by
            rw [hT, if_pos hc]; decide +kernel
          rw [if_pos eT]
          refine ⟨by rw [ofL_len]; exact big (by omega), by rw [ofL_len]; exact big (by omega), four _ ?_⟩
          have et : textL (cs "y = a" :: L' :: tlL kind) = textL [cs "y = a", L'] ++ (cs "end" ++ [10]) := by
            unfold tlL
            rw [if_pos hc]
            simp [textL]
          have l4 : (cs "end" ++ [10]).length = 4 := by decide +kernel
          rw [et, ofL_len, List.length_append, l4]
          rw [show (((textL [cs "y = a", L']).length + 4 : Nat) : Int) - 4 = (((textL [cs "y = a", L']).length : Nat) : Int) by omega, cut_take, List.take_left]
        · have eT : (!T == Str.ofString "") = false := by
            rw [hT, if_neg hc]; decide +kernel
          rw [if_neg (by rw [eT]; simp)]
          refine four _ ?_
          have et : tlL kind = [] := by unfold tlL; rw [if_neg hc]
          rw [et]
      rw [e_law_9]
      dsimp! only [fs__law_take, nE]
      split
      · rename_i h3
        refine ⟨row, _, _, ⟨rfl, rfl, rfl⟩, hr, hj, by decide, fun r r0 r1 => ?_⟩
        obtain rfl : r = ((0 : Nat) : Int) := by omega
        exact eight 0 _ (by omega) (.inl rfl)
      · rename_i h3
        refine ⟨row, _, _, ⟨rfl, rfl, rfl⟩, hr, hj, by decide, fun r r0 r1 => ?_⟩
        obtain ⟨r, rfl⟩ : ∃ m : Nat, r = (m : Int) := ⟨r.toNat, by omega⟩
        refine eight r _ (by omega) ?_
        have : kind ≠ 3 := fun e => h3 (by rw [e]; rfl)
        omega
    rw [e_law_11]
    dsimp! only [id_eq]
    rw [e3]
    refine ⟨big (by omega), big (by rw [sal]; omega), big (by rw [sal, sal]; omega), ?_⟩
    refine hT1 _ TW.ok TW.sh _ _ ?_
    rw [tgood]
    dsimp! only [fs__law_so, fsr__law_so]
    refine ⟨_, _, ⟨rfl, rfl⟩, by simp [PyData.depth], rfl, ?_⟩
    rw [so_same _ rfl]
    dsimp! only [id_eq]
    by_cases h4 : kind = 4
    · subst h4
      have hat4 : atI [PyData.str (Str.ofString "set"), .str (Str.ofString "append"), .str (Str.ofString "prepend"), .str (Str.ofString "drop"), .str (Str.ofString "default")] (sign : Int) = some (.str (Str.ofString (wordS.getD sign "set"))) := by
        obtain rfl | rfl | rfl | rfl | rfl : sign = 0 ∨ sign = 1 ∨ sign = 2 ∨ sign = 3 ∨ sign = 4 := by omega
        all_goals rfl
      have i0 : atI [codeD a, codeD b] 0 = some (codeD a) := rfl
      have i1 : atI [codeD a, codeD b] 1 = some (codeD b) := rfl
      rw [e_law_10]
      dsimp! only [i0, i1]
      rw [if_pos (by rfl)]
      refine ⟨by decide, _, hat4, by decide, by decide, by decide, ?_⟩
      have e0 : Str.ofString "y = a\n" ++ ofL L ++ Str.ofString "\n" = ofL (textL ([cs "y = a", L] ++ tlL 4)) := by
        have e := text_three L 4
        rw [if_neg (by omega)] at e
        have emp : ∀ x : Str, x ++ Str.ofString "" = x := fun x => by
          rw [← ofL_of x, show Str.ofString "" = ofL [] from by decide +kernel, app, List.append_nil]
        rwa [emp] at e
      have est : stmL (textL ([cs "y = a", L] ++ tlL 4)) = [⟨0, "y", "set", [cs "a"], []⟩, ⟨1, ofL a, Str.ofString (wordS.getD sign "set"), [b, cs "zz"], []⟩] := by
        unfold stmL
        rw [bodies_rows w10]
        simp only [List.map_append, List.map_cons, List.map_nil, y_body, LG, tlL]
        simp only [show ¬ (4 = 1 ∨ 4 = 2) by omega, if_false, List.map_nil, List.append_nil, scanI, inStep, in0]
        have nm : ∀ k : List Nat, nameF (ofL []) (ofL k) = ofL k := fun k => by
          unfold nameF
          rw [if_pos (by rw [ofL_nil]; decide +kernel)]
        simp only [nm, List.nil_append, List.cons_append]
        rw [show ofL (cs "y") = ("y" : Str) from ofL_cs "y"]
      rw [e_law_3]
      dsimp! only [fs_statements]
      rw [e0]
      refine ⟨big (by omega), big (by rw [sal]; omega), _, rfl, by simpa [okD] using TW.ok, fun l' e => ?_, fun x hx => ?_, fun hn l' e => ?_⟩
      · have : textL ([cs "y = a", L] ++ tlL 4) = l' := ofL_inj (by injection e)
        rw [← this]; exact TW.sh
      · rw [show PyData.str (ofL (textL ([cs "y = a", L] ++ tlL 4))) = codeD (textL ([cs "y = a", L] ++ tlL 4)) from rfl, textX_none f (by have := TW.len; omega)] at hx
        cases hx
      · have : textL ([cs "y = a", L] ++ tlL 4) = l' := ofL_inj (by injection e)
        subst this
        rw [est]
        refine ⟨.tuple [.int 1, codeD a, .str (Str.ofString (wordS.getD sign "set")), .tuple [codeD b, .str (Str.ofString "zz")], .tuple []], ?_, ?_⟩
        · have ez : codeD (cs "zz") = .str (Str.ofString "zz") := by unfold codeD; rw [ofL_cs]
          rw [← ez]
          rfl
        dsimp! only [fs__law_so, fsr__law_so]
        have okA : okS (ofL a) = true := okS_ofL (fun c hc => by have := hA.lt c hc; omega) (by omega)
        have okB : okS (ofL b) = true := okS_ofL (fun c hc => by have := hB.lt c hc; omega) (by omega)
        have okw : okS (Str.ofString (wordS.getD sign "set")) = true := by
          obtain rfl | rfl | rfl | rfl | rfl : sign = 0 ∨ sign = 1 ∨ sign = 2 ∨ sign = 3 ∨ sign = 4 := by omega
          all_goals decide +kernel
        have okz : okS (Str.ofString "zz") = true := by decide +kernel
        refine ⟨_, _, ⟨rfl, rfl⟩, by simp [PyData.depth, PyData.depthAll], ?_, ?_⟩
        · simp only [okD, okDs, okA, okB, okw, okz, List.length_cons, List.length_nil]
          rfl
        rw [so_same _ rfl]
        dsimp! only [id_eq]
        exact nine _ trivial
    · have e4 : ((kind : Int) == 4) = false := by simp; omega
      rw [e_law_10]
      dsimp! only [e4]
      exact nine _ trivial
  rw [e_law_12]
  dsimp! only [in2]
  refine ⟨by decide, rfl, rfl, ?_⟩
  by_cases hc : kind = 1 ∨ kind = 2
  · rw [if_pos (decide_eq_true hc)]
    exact eleven _ (by rw [if_pos hc])
  · rw [if_neg (by simpa using hc)]
    exact eleven _ (by rw [if_neg hc])

theorem d_is_sequence {P : Program} {w : World} {K : PySem.W.Frag} {mg : Str → Option Value} {base : Heap} (b_isinstance : mg "isinstance" = none) (b_list : mg "list" = none) (b_tuple : mg "tuple" = none) {f : Addr} {fd : FuncData} (Fu : Fn K "is_sequence" s_is_sequence f fd) (hm : mg "is_sequence" = some (.ref f)) : Ca P w K mg base "is_sequence" 1 fs_is_sequence := by
  have nd : (["value"] : List Str).Nodup := by decide +kernel
  refine ca_mk (N := ["value"]) (ps := ["value"]) (k := 0) (fs := fs_is_sequence) (u := w_is_sequence) Fu ⟨rfl, rfl, rfl, nd, rfl, by decide +kernel, by decide +kernel⟩ l_is_sequence m_is_sequence hm (Fu.bindsN fun _ _ _ _ _ _ us hl => match us, hl with | [_], _ => rfl) (fun cdv A outer s H E hr => ?_)
  exact (dss_one (ds_ret (de_isi2 (de_bor (pv 0)) (by decide) (by decide) (by decide +kernel) (by decide +kernel) b_list b_tuple b_isinstance)))
theorem d_is_letter {P : Program} {w : World} {K : PySem.W.Frag} {mg : Str → Option Value} {base : Heap}  {f : Addr} {fd : FuncData} (Fu : Fn K "is_letter" s_is_letter f fd) (hm : mg "is_letter" = some (.ref f)) : Ca P w K mg base "is_letter" 1 fs_is_letter := by
  have nd : (["sign"] : List Str).Nodup := by decide +kernel
  refine ca_mk (N := ["sign"]) (ps := ["sign"]) (k := 0) (fs := fs_is_letter) (u := w_is_letter) Fu ⟨rfl, rfl, rfl, nd, rfl, by decide +kernel, by decide +kernel⟩ l_is_letter m_is_letter hm (Fu.bindsN fun _ _ _ _ _ _ us hl => match us, hl with | [_], _ => rfl) (fun cdv A outer s H E hr => ?_)
  exact (dss_one (ds_ret (de_or (de_chain p_cmp p_cmp op_leU op_leU de_str (de_bor (pv 0)) de_str) (de_or (de_chain p_cmp p_cmp op_leU op_leU de_str (de_bor (pv 0)) de_str) (de_one (de_chain p_cmp p_cmp op_leU op_leU de_str (de_bor (pv 0)) de_str))))))
theorem d_has_signs {P : Program} {w : World} {K : PySem.W.Frag} {mg : Str → Option Value} {base : Heap} (b_isinstance : mg "isinstance" = none) (b_str : mg "str" = none) (b_len : mg "len" = none) (b_all : mg "all" = none) (g_MOST_SIGNS : Gc K mg "MOST_SIGNS" (PyData.int 40)) (c_is_letter : Ca P w K mg base "is_letter" 1 fs_is_letter) {f : Addr} {fd : FuncData} (Fu : Fn K "has_signs" s_has_signs f fd) (hm : mg "has_signs" = some (.ref f)) : Ca P w K mg base "has_signs" 2 fs_has_signs := by
  have nd : (["value", "signs", "sign"] : List Str).Nodup := by decide +kernel
  refine ca_mk (N := ["value", "signs", "sign"]) (ps := ["value", "signs"]) (k := 1) (fs := fs_has_signs) (u := w_has_signs) Fu ⟨rfl, rfl, rfl, nd, rfl, by decide +kernel, by decide +kernel⟩ l_has_signs m_has_signs hm (Fu.bindsN fun _ _ _ _ _ _ us hl => match us, hl with | [_, _], _ => rfl) (fun cdv A outer s H E hr => ?_)
  have tk : Takes (cxOf (L2.CX P w) P w K mg base ["value", "signs", "sign"] "has_signs" (defScope s_has_signs) f cdv A outer s H E) (WD E) := takes_of rfl rfl rfl rfl
  exact (dss_cons (ds_if ((dw_or (dt_not (dt_val (de_isi (de_bor (pv 0)) (by decide) (by decide +kernel) b_str b_isinstance))) (dw_or1 (dt_not (dt_chain p_cmp p_cmp op_leU op_leU de_int (de_callB p_len call_lenU b_len PySem.boot_len (da_cons (de_bor (pv 0)) da_nil)) (de_glob g_MOST_SIGNS)))))).dt (dss_one (ds_ret de_bl)) dss_nil)
    (dss_one (ds_ret (de_callB p_all (cr_all rfl) b_all (by decide +kernel) (da_cons (de_lc (own := [("sign", 2)]) rfl nd (di_any (de_var (pv 0))) (blkOk_by (own := [("sign", 2)]) (by show blkC ["value", "signs", "sign"] (defScope s_has_signs) _ _ = true; decide +kernel)) (fun _ _ _ _ _ => (pg_n nd)) (fun _ _ _ _ _ => dts_nil) (fun _ _ _ _ _ => (de_or (de_call takes0 c_is_letter hr (by decide) (da_cons (de_var (pv 2)) da_nil)) (de_one (de_cmp p_in op_inU (de_bor (pv 2)) (de_bor (pv 1))))))) da_nil)))))
theorem d_is_word {P : Program} {w : World} {K : PySem.W.Frag} {mg : Str → Option Value} {base : Heap} (c_has_signs : Ca P w K mg base "has_signs" 2 fs_has_signs) {f : Addr} {fd : FuncData} (Fu : Fn K "is_word" s_is_word f fd) (hm : mg "is_word" = some (.ref f)) : Ca P w K mg base "is_word" 3 fs_is_word := by
  have nd : (["value"] : List Str).Nodup := by decide +kernel
  refine ca_mk (N := ["value"]) (ps := ["value"]) (k := 2) (fs := fs_is_word) (u := w_is_word) Fu ⟨rfl, rfl, rfl, nd, rfl, by decide +kernel, by decide +kernel⟩ l_is_word m_is_word hm (Fu.bindsN fun _ _ _ _ _ _ us hl => match us, hl with | [_], _ => rfl) (fun cdv A outer s H E hr => ?_)
  have tk : Takes (cxOf (L2.CX P w) P w K mg base ["value"] "is_word" (defScope s_is_word) f cdv A outer s H E) (WD E) := takes_of rfl rfl rfl rfl
  exact (dss_one (ds_ret (de_call tk c_has_signs hr (by decide) (da_cons (de_var (pv 0)) (da_cons de_str da_nil)))))
theorem d_is_plain {P : Program} {w : World} {K : PySem.W.Frag} {mg : Str → Option Value} {base : Heap} (c_has_signs : Ca P w K mg base "has_signs" 2 fs_has_signs) {f : Addr} {fd : FuncData} (Fu : Fn K "is_plain" s_is_plain f fd) (hm : mg "is_plain" = some (.ref f)) : Ca P w K mg base "is_plain" 3 fs_is_plain := by
  have nd : (["value"] : List Str).Nodup := by decide +kernel
  refine ca_mk (N := ["value"]) (ps := ["value"]) (k := 2) (fs := fs_is_plain) (u := w_is_plain) Fu ⟨rfl, rfl, rfl, nd, rfl, by decide +kernel, by decide +kernel⟩ l_is_plain m_is_plain hm (Fu.bindsN fun _ _ _ _ _ _ us hl => match us, hl with | [_], _ => rfl) (fun cdv A outer s H E hr => ?_)
  have tk : Takes (cxOf (L2.CX P w) P w K mg base ["value"] "is_plain" (defScope s_is_plain) f cdv A outer s H E) (WD E) := takes_of rfl rfl rfl rfl
  exact (dss_one (ds_ret (de_and (de_call tk c_has_signs hr (by decide) (da_cons (de_var (pv 0)) (da_cons de_str da_nil))) (de_one (de_not (de_chain p_cmp p_cmp op_leU op_leU de_str (de_ix p_ix ix_seq (de_bor (pv 0)) de_int) de_str))))))
theorem d_is_item_word {P : Program} {w : World} {K : PySem.W.Frag} {mg : Str → Option Value} {base : Heap} (c_has_signs : Ca P w K mg base "has_signs" 2 fs_has_signs) {f : Addr} {fd : FuncData} (Fu : Fn K "is_item_word" s_is_item_word f fd) (hm : mg "is_item_word" = some (.ref f)) : Ca P w K mg base "is_item_word" 3 fs_is_item_word := by
  have nd : (["value"] : List Str).Nodup := by decide +kernel
  refine ca_mk (N := ["value"]) (ps := ["value"]) (k := 2) (fs := fs_is_item_word) (u := w_is_item_word) Fu ⟨rfl, rfl, rfl, nd, rfl, by decide +kernel, by decide +kernel⟩ l_is_item_word m_is_item_word hm (Fu.bindsN fun _ _ _ _ _ _ us hl => match us, hl with | [_], _ => rfl) (fun cdv A outer s H E hr => ?_)
  have tk : Takes (cxOf (L2.CX P w) P w K mg base ["value"] "is_item_word" (defScope s_is_item_word) f cdv A outer s H E) (WD E) := takes_of rfl rfl rfl rfl
  exact (dss_one (ds_ret (de_and (de_call tk c_has_signs hr (by decide) (da_cons (de_var (pv 0)) (da_cons de_str da_nil))) (de_one (de_cmp p_ne (op_neU hr.units) (de_ix p_ix ix_seq (de_bor (pv 0)) (de_neg de_int)) de_str)))))
theorem d_is_key {P : Program} {w : World} {K : PySem.W.Frag} {mg : Str → Option Value} {base : Heap} (g_RESERVED : Gc K mg "RESERVED" (PyData.tuple [(PyData.str "unset"), (PyData.str "lock"), (PyData.str "when"), (PyData.str "end")])) (c_is_plain : Ca P w K mg base "is_plain" 3 fs_is_plain) {f : Addr} {fd : FuncData} (Fu : Fn K "is_key" s_is_key f fd) (hm : mg "is_key" = some (.ref f)) : Ca P w K mg base "is_key" 4 fs_is_key := by
  have nd : (["value"] : List Str).Nodup := by decide +kernel
  refine ca_mk (N := ["value"]) (ps := ["value"]) (k := 3) (fs := fs_is_key) (u := w_is_key) Fu ⟨rfl, rfl, rfl, nd, rfl, by decide +kernel, by decide +kernel⟩ l_is_key m_is_key hm (Fu.bindsN fun _ _ _ _ _ _ us hl => match us, hl with | [_], _ => rfl) (fun cdv A outer s H E hr => ?_)
  have tk : Takes (cxOf (L2.CX P w) P w K mg base ["value"] "is_key" (defScope s_is_key) f cdv A outer s H E) (WD E) := takes_of rfl rfl rfl rfl
  exact (dss_one (ds_ret (de_and (de_call tk c_is_plain hr (by decide) (da_cons (de_var (pv 0)) da_nil)) (de_one (de_cmp p_in op_ninU (de_bor (pv 0)) (de_glob g_RESERVED))))))
theorem d_is_section {P : Program} {w : World} {K : PySem.W.Frag} {mg : Str → Option Value} {base : Heap} (b_len : mg "len" = none) (b_all : mg "all" = none) (g_MOST_WORDS : Gc K mg "MOST_WORDS" (PyData.int 4)) (c_is_plain : Ca P w K mg base "is_plain" 3 fs_is_plain) {f : Addr} {fd : FuncData} (Fu : Fn K "is_section" s_is_section f fd) (hm : mg "is_section" = some (.ref f)) : Ca P w K mg base "is_section" 4 fs_is_section := by
  have nd : (["value", "words", "word"] : List Str).Nodup := by decide +kernel
  refine ca_mk (N := ["value", "words", "word"]) (ps := ["value"]) (k := 3) (fs := fs_is_section) (u := w_is_section) Fu ⟨rfl, rfl, rfl, nd, rfl, by decide +kernel, by decide +kernel⟩ l_is_section m_is_section hm (Fu.bindsN fun _ _ _ _ _ _ us hl => match us, hl with | [_], _ => rfl) (fun cdv A outer s H E hr => ?_)
  have tk : Takes (cxOf (L2.CX P w) P w K mg base ["value", "words", "word"] "is_section" (defScope s_is_section) f cdv A outer s H E) (WD E) := takes_of rfl rfl rfl rfl
  exact (dss_cons (ds_set (de_m1 p_split PySem.F.slot_str_split PySem.F.type_str_split mt_split (de_var (pv 0)) de_str) nd)
    (dss_one (ds_ret (de_and (de_cmp p_cmp op_leU (de_callB p_len call_lenU b_len PySem.boot_len (da_cons (de_bor (pv 1)) da_nil)) (de_glob g_MOST_WORDS)) (de_one (de_callB p_all (cr_all rfl) b_all (by decide +kernel) (da_cons (de_lc (own := [("word", 2)]) rfl nd (di_any (de_var (pv 1))) (blkOk_by (own := [("word", 2)]) (by show blkC ["value", "words", "word"] (defScope s_is_section) _ _ = true; decide +kernel)) (fun _ _ _ _ _ => (pg_n nd)) (fun _ _ _ _ _ => dts_nil) (fun _ _ _ _ _ => (de_call takes0 c_is_plain hr (by decide) (da_cons (de_var (pv 2)) da_nil)))) da_nil)))))))
theorem d_name_of {P : Program} {w : World} {K : PySem.W.Frag} {mg : Str → Option Value} {base : Heap}  {f : Addr} {fd : FuncData} (Fu : Fn K "name_of" s_name_of f fd) (hm : mg "name_of" = some (.ref f)) : Ca P w K mg base "name_of" 1 fs_name_of := by
  have nd : (["section", "key"] : List Str).Nodup := by decide +kernel
  refine ca_mk (N := ["section", "key"]) (ps := ["section", "key"]) (k := 0) (fs := fs_name_of) (u := w_name_of) Fu ⟨rfl, rfl, rfl, nd, rfl, by decide +kernel, by decide +kernel⟩ l_name_of m_name_of hm (Fu.bindsN fun _ _ _ _ _ _ us hl => match us, hl with | [_, _], _ => rfl) (fun cdv A outer s H E hr => ?_)
  exact (dss_one (ds_ret (de_if (dt_cmp p_eq (op_eqU hr.units) (de_bor (pv 0)) de_str) (de_var (pv 1)) (de_bin p_add op_addU (de_bin p_add op_addU (de_bor (pv 0)) de_str) (de_bor (pv 1))))))
theorem d_section_body {P : Program} {w : World} {K : PySem.W.Frag} {mg : Str → Option Value} {base : Heap} (b_len : mg "len" = none) (c_is_section : Ca P w K mg base "is_section" 4 fs_is_section) {f : Addr} {fd : FuncData} (Fu : Fn K "section_body" s_section_body f fd) (hm : mg "section_body" = some (.ref f)) : Ca P w K mg base "section_body" 5 fs_section_body := by
  have nd : (["body", "section"] : List Str).Nodup := by decide +kernel
  refine ca_mk (N := ["body", "section"]) (ps := ["body"]) (k := 4) (fs := fs_section_body) (u := w_section_body) Fu ⟨rfl, rfl, rfl, nd, rfl, by decide +kernel, by decide +kernel⟩ l_section_body m_section_body hm (Fu.bindsN fun _ _ _ _ _ _ us hl => match us, hl with | [_], _ => rfl) (fun cdv A outer s H E hr => ?_)
  have tk : Takes (cxOf (L2.CX P w) P w K mg base ["body", "section"] "section_body" (defScope s_section_body) f cdv A outer s H E) (WD E) := takes_of rfl rfl rfl rfl
  exact (dss_cons (ds_set (de_sl p_sl sl_U (de_bor (pv 0)) (do_some de_int) (do_some (de_neg de_int))) nd)
    (dss_cons (ds_if ((dw_and (dt_cmp p_eq (op_eqU hr.units) (de_ix p_ix ix_seq (de_bor (pv 0)) (de_neg de_int)) de_str) (dw_and (dt_cmp p_cmp op_gtU (de_callB p_len call_lenU b_len PySem.boot_len (da_cons (de_bor (pv 0)) da_nil)) de_int) (dw_and1 ((dw_or (dt_cmp p_eq (op_eqU hr.units) (de_bor (pv 1)) de_str) (dw_or1 (dt_val (de_call tk c_is_section hr (by decide) (da_cons (de_var (pv 1)) da_nil)))))).dt)))).dt (dss_one (ds_ret (de_tup (da_cons de_str (da_cons (de_var (pv 1)) da_nil))))) dss_nil)
    (dss_one (ds_ret de_non))))
theorem d_when_body {P : Program} {w : World} {K : PySem.W.Frag} {mg : Str → Option Value} {base : Heap} (b_tuple : mg "tuple" = none) (b_all : mg "all" = none) (b_len : mg "len" = none) (b_set : mg "set" = none) (c_is_plain : Ca P w K mg base "is_plain" 3 fs_is_plain) (c_is_word : Ca P w K mg base "is_word" 3 fs_is_word) {f : Addr} {fd : FuncData} (Fu : Fn K "when_body" s_when_body f fd) (hm : mg "when_body" = some (.ref f)) : Ca P w K mg base "when_body" 4 fs_when_body := by
  have nd : (["body", "fact", "_", "rest", "positive", "values", "value"] : List Str).Nodup := by decide +kernel
  refine ca_mk (N := ["body", "fact", "_", "rest", "positive", "values", "value"]) (ps := ["body"]) (k := 3) (fs := fs_when_body) (u := w_when_body) Fu ⟨rfl, rfl, rfl, nd, rfl, by decide +kernel, by decide +kernel⟩ l_when_body m_when_body hm (Fu.bindsN fun _ _ _ _ _ _ us hl => match us, hl with | [_], _ => rfl) (fun cdv A outer s H E hr => ?_)
  have tk : Takes (cxOf (L2.CX P w) P w K mg base ["body", "fact", "_", "rest", "positive", "values", "value"] "when_body" (defScope s_when_body) f cdv A outer s H E) (WD E) := takes_of rfl rfl rfl rfl
  exact (dss_cons (ds_asg (de_m1 p_part PySem.F.slot_str_partition PySem.F.type_str_partition mt_partition (de_sl p_sl sl_U (de_bor (pv 0)) (do_some de_int) do_none) de_str) (pg_t rfl (pgs_1 nd (pgs_1 nd (pgs_1 nd pgs_0)))))
    (dss_cons (ds_set (de_not (de_m1 p_start PySem.F.slot_str_startswith PySem.F.type_str_startswith mt_startswith (de_var (pv 3)) de_str)) nd)
    (dss_cons (ds_if (dt_not (dt_val (de_var (pv 4)))) (dss_one (ds_set (de_sl p_sl sl_U (de_bor (pv 3)) (do_some de_int) do_none) nd)) dss_nil)
    (dss_cons (ds_set (de_callTy p_toTup call_tuple_of b_tuple (by decide +kernel) (da_cons (de_m1 p_split PySem.F.slot_str_split PySem.F.type_str_split mt_split (de_var (pv 3)) de_str) da_nil)) nd)
    (dss_cons (ds_if ((dw_or (dt_not (dt_val (de_call tk c_is_plain hr (by decide) (da_cons (de_var (pv 1)) da_nil)))) (dw_or (dt_not (dt_val (de_callB p_all (cr_all rfl) b_all (by decide +kernel) (da_cons (de_lc (own := [("value", 6)]) rfl nd (di_any (de_var (pv 5))) (blkOk_by (own := [("value", 6)]) (by show blkC ["body", "fact", "_", "rest", "positive", "values", "value"] (defScope s_when_body) _ _ = true; decide +kernel)) (fun _ _ _ _ _ => (pg_n nd)) (fun _ _ _ _ _ => dts_nil) (fun _ _ _ _ _ => (de_call takes0 c_is_word hr (by decide) (da_cons (de_var (pv 6)) da_nil)))) da_nil)))) (dw_or1 (dt_cmp p_in op_inU de_str (de_bor (pv 5))))))).dt (dss_one (ds_ret de_non)) dss_nil)
    (dss_cons (ds_if (dt_cmp p_cmp op_ltU (de_lenSet (de_bor (pv 5)) b_len b_set) (de_callB p_len call_lenU b_len PySem.boot_len (da_cons (de_bor (pv 5)) da_nil))) (dss_one (ds_ret de_non)) dss_nil)
    (dss_one (ds_ret (de_tup (da_cons de_str (da_cons (de_tup (da_cons (de_var (pv 1)) (da_cons (de_var (pv 5)) (da_cons (de_var (pv 4)) da_nil)))) da_nil)))))))))))
theorem d_statement_body {P : Program} {w : World} {K : PySem.W.Frag} {mg : Str → Option Value} {base : Heap} (b_tuple : mg "tuple" = none) (b_all : mg "all" = none) (b_len : mg "len" = none) (gd_WORDS : Gd K w mg "WORDS" [("=", (PyData.str "set")), ("+=", (PyData.str "append")), ("^=", (PyData.str "prepend")), ("-=", (PyData.str "drop")), ("?=", (PyData.str "default"))]) (c_is_key : Ca P w K mg base "is_key" 4 fs_is_key) (c_is_item_word : Ca P w K mg base "is_item_word" 3 fs_is_item_word) {f : Addr} {fd : FuncData} (Fu : Fn K "statement_body" s_statement_body f fd) (hm : mg "statement_body" = some (.ref f)) : Ca P w K mg base "statement_body" 5 fs_statement_body := by
  have nd : (["body", "key", "_", "rest", "sign", "blank", "listed", "items", "item"] : List Str).Nodup := by decide +kernel
  refine ca_mk (N := ["body", "key", "_", "rest", "sign", "blank", "listed", "items", "item"]) (ps := ["body"]) (k := 4) (fs := fs_statement_body) (u := w_statement_body) Fu ⟨rfl, rfl, rfl, nd, rfl, by decide +kernel, by decide +kernel⟩ l_statement_body m_statement_body hm (Fu.bindsN fun _ _ _ _ _ _ us hl => match us, hl with | [_], _ => rfl) (fun cdv A outer s H E hr => ?_)
  have tk : Takes (cxOf (L2.CX P w) P w K mg base ["body", "key", "_", "rest", "sign", "blank", "listed", "items", "item"] "statement_body" (defScope s_statement_body) f cdv A outer s H E) (WD E) := takes_of rfl rfl rfl rfl
  exact (dss_cons (ds_asg (de_m1 p_part PySem.F.slot_str_partition PySem.F.type_str_partition mt_partition (de_var (pv 0)) de_str) (pg_t rfl (pgs_1 nd (pgs_1 nd (pgs_1 nd pgs_0)))))
    (dss_cons (ds_asg (de_m1 p_part PySem.F.slot_str_partition PySem.F.type_str_partition mt_partition (de_var (pv 3)) de_str) (pg_t rfl (pgs_1 nd (pgs_1 nd (pgs_1 nd pgs_0)))))
    (dss_cons (ds_if ((dw_or (dt_not (dt_val (de_call tk c_is_key hr (by decide) (da_cons (de_var (pv 1)) da_nil)))) (dw_or1 (dt_knin gd_WORDS (de_bor (pv 4)))))).dt (dss_one (ds_ret de_non)) dss_nil)
    (dss_cons (ds_set (de_tup da_nil) nd)
    (dss_cons (ds_if (dt_cmp p_ne (op_neU hr.units) (de_bor (pv 5)) de_str) (dss_one (ds_set (de_callTy p_toTup call_tuple_of b_tuple (by decide +kernel) (da_cons (de_m1 p_split PySem.F.slot_str_split PySem.F.type_str_split mt_split (de_var (pv 6)) de_str) da_nil)) nd)) dss_nil)
    (dss_cons (ds_if ((dw_or (dt_not (dt_val (de_callB p_all (cr_all rfl) b_all (by decide +kernel) (da_cons (de_lc (own := [("item", 8)]) rfl nd (di_any (de_var (pv 7))) (blkOk_by (own := [("item", 8)]) (by show blkC ["body", "key", "_", "rest", "sign", "blank", "listed", "items", "item"] (defScope s_statement_body) _ _ = true; decide +kernel)) (fun _ _ _ _ _ => (pg_n nd)) (fun _ _ _ _ _ => dts_nil) (fun _ _ _ _ _ => (de_call takes0 c_is_item_word hr (by decide) (da_cons (de_var (pv 8)) da_nil)))) da_nil)))) (dw_or1 ((dw_and (dt_cmp p_eq (op_eqU hr.units) (de_callB p_len call_lenU b_len PySem.boot_len (da_cons (de_bor (pv 7)) da_nil)) de_int) (dw_and1 (dt_cmp p_in op_ninU (de_bor (pv 4)) (de_tup (da_cons de_str (da_cons de_str da_nil))))))).dt))).dt (dss_one (ds_ret de_non)) dss_nil)
    (dss_one (ds_ret (de_tup (da_cons de_str (da_cons (de_var (pv 1)) (da_cons (de_kix gd_WORDS (de_bor (pv 4))) (da_cons (de_var (pv 7)) da_nil)))))))))))))
theorem d_told_by {P : Program} {w : World} {K : PySem.W.Frag} {mg : Str → Option Value} {base : Heap} (c_section_body : Ca P w K mg base "section_body" 5 fs_section_body) (c_when_body : Ca P w K mg base "when_body" 4 fs_when_body) (c_is_key : Ca P w K mg base "is_key" 4 fs_is_key) (c_statement_body : Ca P w K mg base "statement_body" 5 fs_statement_body) {f : Addr} {fd : FuncData} (Fu : Fn K "told_by" s_told_by f fd) (hm : mg "told_by" = some (.ref f)) : Ca P w K mg base "told_by" 6 fs_told_by := by
  have nd : (["body", "word", "_", "rest"] : List Str).Nodup := by decide +kernel
  refine ca_mk (N := ["body", "word", "_", "rest"]) (ps := ["body"]) (k := 5) (fs := fs_told_by) (u := w_told_by) Fu ⟨rfl, rfl, rfl, nd, rfl, by decide +kernel, by decide +kernel⟩ l_told_by m_told_by hm (Fu.bindsN fun _ _ _ _ _ _ us hl => match us, hl with | [_], _ => rfl) (fun cdv A outer s H E hr => ?_)
  have tk : Takes (cxOf (L2.CX P w) P w K mg base ["body", "word", "_", "rest"] "told_by" (defScope s_told_by) f cdv A outer s H E) (WD E) := takes_of rfl rfl rfl rfl
  exact (dss_cons (ds_if (dt_cmp p_eq (op_eqU hr.units) (de_bor (pv 0)) de_str) (dss_one (ds_ret (de_tup (da_cons de_str da_nil)))) dss_nil)
    (dss_cons (ds_if (dt_cmp p_eq (op_eqU hr.units) (de_bor (pv 0)) de_str) (dss_one (ds_ret (de_tup (da_cons de_str da_nil)))) dss_nil)
    (dss_cons (ds_if (dt_cmp p_eq (op_eqU hr.units) (de_ix p_ix ix_seq (de_bor (pv 0)) de_int) de_str) (dss_one (ds_ret (de_call tk c_section_body hr (by decide) (da_cons (de_var (pv 0)) da_nil)))) dss_nil)
    (dss_cons (ds_asg (de_m1 p_part PySem.F.slot_str_partition PySem.F.type_str_partition mt_partition (de_var (pv 0)) de_str) (pg_t rfl (pgs_1 nd (pgs_1 nd (pgs_1 nd pgs_0)))))
    (dss_cons (ds_if (dt_cmp p_eq (op_eqU hr.units) (de_bor (pv 1)) de_str) (dss_one (ds_ret (de_call tk c_when_body hr (by decide) (da_cons (de_var (pv 0)) da_nil)))) dss_nil)
    (dss_cons (ds_if ((dw_or (dt_cmp p_eq (op_eqU hr.units) (de_bor (pv 1)) de_str) (dw_or1 (dt_cmp p_eq (op_eqU hr.units) (de_bor (pv 1)) de_str)))).dt (dss_one (ds_ret (de_if (dt_val (de_call tk c_is_key hr (by decide) (da_cons (de_var (pv 3)) da_nil))) (de_tup (da_cons de_str (da_cons (de_var (pv 3)) (da_cons (de_var (pv 1)) (da_cons (de_tup da_nil) da_nil))))) de_non))) dss_nil)
    (dss_one (ds_ret (de_call tk c_statement_body hr (by decide) (da_cons (de_var (pv 0)) da_nil))))))))))
theorem d_body_of {P : Program} {w : World} {K : PySem.W.Frag} {mg : Str → Option Value} {base : Heap} (c_told_by : Ca P w K mg base "told_by" 6 fs_told_by) {f : Addr} {fd : FuncData} (Fu : Fn K "body_of" s_body_of f fd) (hm : mg "body_of" = some (.ref f)) : Ca P w K mg base "body_of" 7 fs_body_of := by
  have nd : (["line", "body", "sign", "_"] : List Str).Nodup := by decide +kernel
  refine ca_mk (N := ["line", "body", "sign", "_"]) (ps := ["line"]) (k := 6) (fs := fs_body_of) (u := w_body_of) Fu ⟨rfl, rfl, rfl, nd, rfl, by decide +kernel, by decide +kernel⟩ l_body_of m_body_of hm (Fu.bindsN fun _ _ _ _ _ _ us hl => match us, hl with | [_], _ => rfl) (fun cdv A outer s H E hr => ?_)
  have tk : Takes (cxOf (L2.CX P w) P w K mg base ["line", "body", "sign", "_"] "body_of" (defScope s_body_of) f cdv A outer s H E) (WD E) := takes_of rfl rfl rfl rfl
  exact (dss_cons (ds_asg (de_m1 p_part PySem.F.slot_str_partition PySem.F.type_str_partition mt_partition (de_var (pv 0)) de_str) (pg_t rfl (pgs_1 nd (pgs_1 nd (pgs_1 nd pgs_0)))))
    (dss_cons (ds_set (de_m1 p_stripC PySem.F.slot_str_lstrip PySem.F.type_str_lstrip mt_lstripChars (de_var (pv 1)) de_str) nd)
    (dss_cons (ds_if (dt_cmp p_ne (op_neU hr.units) (de_bor (pv 2)) de_str) (dss_one (ds_set (de_m1 p_stripC PySem.F.slot_str_rstrip PySem.F.type_str_rstrip mt_rstripChars (de_var (pv 1)) de_str) nd)) dss_nil)
    (dss_one (ds_ret (de_call tk c_told_by hr (by decide) (da_cons (de_var (pv 1)) da_nil)))))))
theorem d_split_lines {P : Program} {w : World} {K : PySem.W.Frag} {mg : Str → Option Value} {base : Heap}  {f : Addr} {fd : FuncData} (Fu : Fn K "split_lines" s_split_lines f fd) (hm : mg "split_lines" = some (.ref f)) : Ca P w K mg base "split_lines" 1 fs_split_lines := by
  have nd : (["text", "lines"] : List Str).Nodup := by decide +kernel
  refine ca_mk (N := ["text", "lines"]) (ps := ["text"]) (k := 0) (fs := fs_split_lines) (u := w_split_lines) Fu ⟨rfl, rfl, rfl, nd, rfl, by decide +kernel, by decide +kernel⟩ l_split_lines m_split_lines hm (Fu.bindsN fun _ _ _ _ _ _ us hl => match us, hl with | [_], _ => rfl) (fun cdv A outer s H E hr => ?_)
  exact (dss_cons (ds_set (de_m1 p_split PySem.F.slot_str_split PySem.F.type_str_split mt_split (de_var (pv 0)) de_str) nd)
    (dss_cons (ds_if (dt_cmp p_eq (op_eqU hr.units) (de_ix p_ix ix_seq (de_bor (pv 1)) (de_neg de_int)) de_str) (dss_one (ds_pop (pe_bm0 PySem.F.plainAttrs_list PySem.F.slot_list_pop PySem.F.type_list_pop mt_pop (pv 1)))) dss_nil)
    (dss_one (ds_ret (de_take (pv 1))))))
theorem d_bodies_of {P : Program} {w : World} {K : PySem.W.Frag} {mg : Str → Option Value} {base : Heap} (c_split_lines : Ca P w K mg base "split_lines" 1 fs_split_lines) (c_body_of : Ca P w K mg base "body_of" 7 fs_body_of) {f : Addr} {fd : FuncData} (Fu : Fn K "bodies_of" s_bodies_of f fd) (hm : mg "bodies_of" = some (.ref f)) : Ca P w K mg base "bodies_of" 8 fs_bodies_of := by
  have nd : (["text", "line"] : List Str).Nodup := by decide +kernel
  refine ca_mk (N := ["text", "line"]) (ps := ["text"]) (k := 7) (fs := fs_bodies_of) (u := w_bodies_of) Fu ⟨rfl, rfl, rfl, nd, rfl, by decide +kernel, by decide +kernel⟩ l_bodies_of m_bodies_of hm (Fu.bindsN fun _ _ _ _ _ _ us hl => match us, hl with | [_], _ => rfl) (fun cdv A outer s H E hr => ?_)
  have tk : Takes (cxOf (L2.CX P w) P w K mg base ["text", "line"] "bodies_of" (defScope s_bodies_of) f cdv A outer s H E) (WD E) := takes_of rfl rfl rfl rfl
  exact (dss_one (ds_ret (de_lc (own := [("line", 1)]) rfl nd (di_any (de_call tk c_split_lines hr (by decide) (da_cons (de_var (pv 0)) da_nil))) (blkOk_by (own := [("line", 1)]) (by show blkC ["text", "line"] (defScope s_bodies_of) _ _ = true; decide +kernel)) (fun _ _ _ _ _ => (pg_n nd)) (fun _ _ _ _ _ => dts_nil) (fun _ _ _ _ _ => (de_call takes0 c_body_of hr (by decide) (da_cons (de_var (pv 1)) da_nil))))))
theorem d_first_bad {P : Program} {w : World} {K : PySem.W.Frag} {mg : Str → Option Value} {base : Heap} (b_enumerate : mg "enumerate" = none) (b_len : mg "len" = none) (b_min : mg "min" = none) (g_MOST_WHENS : Gc K mg "MOST_WHENS" (PyData.int 20)) (c_bodies_of : Ca P w K mg base "bodies_of" 8 fs_bodies_of) {f : Addr} {fd : FuncData} (Fu : Fn K "first_bad" s_first_bad f fd) (hm : mg "first_bad" = some (.ref f)) : Ca P w K mg base "first_bad" 9 fs_first_bad := by
  have nd : (["text", "bad", "whens", "bodies", "at", "body"] : List Str).Nodup := by decide +kernel
  refine ca_mk (N := ["text", "bad", "whens", "bodies", "at", "body"]) (ps := ["text"]) (k := 8) (fs := fs_first_bad) (u := w_first_bad) Fu ⟨rfl, rfl, rfl, nd, rfl, by decide +kernel, by decide +kernel⟩ l_first_bad m_first_bad hm (Fu.bindsN fun _ _ _ _ _ _ us hl => match us, hl with | [_], _ => rfl) (fun cdv A outer s H E hr => ?_)
  have tk : Takes (cxOf (L2.CX P w) P w K mg base ["text", "bad", "whens", "bodies", "at", "body"] "first_bad" (defScope s_first_bad) f cdv A outer s H E) (WD E) := takes_of rfl rfl rfl rfl
  exact (dss_cons (ds_set (de_lst da_nil) nd)
    (dss_cons (ds_set (de_lst da_nil) nd)
    (dss_cons (ds_set (de_call tk c_bodies_of hr (by decide) (da_cons (de_var (pv 0)) da_nil)) nd)
    (dss_cons (ds_for (passes_of rfl) rfl (di_enum (da_cons (de_var (pv 3)) da_nil) b_enumerate) (pg_t rfl (pgs_1 nd (pgs_1 nd pgs_0))) (dss_one (ds_if (dt_cmp p_isN op_isN (de_bor (pv 5)) de_non) (dss_one (ds_append (pe_bm PySem.F.plainAttrs_list PySem.F.slot_list_append PySem.F.type_list_append mt_append (pv 1) (pa_cons (DE.pe (de_var (pv 4))) pa_nil)))) (dss_one (ds_if (dt_cmp p_eq (op_eqU hr.units) (de_ix p_ix ix_seq (de_bor (pv 5)) de_int) de_str) (dss_cons (ds_append (pe_bm PySem.F.plainAttrs_list PySem.F.slot_list_append PySem.F.type_list_append mt_append (pv 2) (pa_cons (DE.pe (de_var (pv 4))) pa_nil)))
    (dss_one (ds_if (dt_cmp p_cmp op_gtU (de_callB p_len call_lenU b_len PySem.boot_len (da_cons (de_bor (pv 2)) da_nil)) (de_glob g_MOST_WHENS)) (dss_one (ds_append (pe_bm PySem.F.plainAttrs_list PySem.F.slot_list_append PySem.F.type_list_append mt_append (pv 1) (pa_cons (DE.pe (de_var (pv 4))) pa_nil)))) dss_nil))) (dss_one (ds_if (dt_cmp p_eq (op_eqU hr.units) (de_ix p_ix ix_seq (de_bor (pv 5)) de_int) de_str) (dss_one (ds_if (dt_cmp p_cmp op_gtU (de_callB p_len call_lenU b_len PySem.boot_len (da_cons (de_bor (pv 2)) da_nil)) de_int) (dss_one (ds_pop (pe_bm0 PySem.F.plainAttrs_list PySem.F.slot_list_pop PySem.F.type_list_pop mt_pop (pv 2)))) (dss_one (ds_append (pe_bm PySem.F.plainAttrs_list PySem.F.slot_list_append PySem.F.type_list_append mt_append (pv 1) (pa_cons (DE.pe (de_var (pv 4))) pa_nil)))))) dss_nil)))))))
    (dss_cons (ds_if ((dw_and (dt_cmp p_ne (op_neU hr.units) (de_bor (pv 0)) de_str) (dw_and1 (dt_not (dt_val (de_m1 p_end PySem.F.slot_str_endswith PySem.F.type_str_endswith mt_endswith (de_var (pv 0)) de_str)))))).dt (dss_one (ds_append (pe_bm PySem.F.plainAttrs_list PySem.F.slot_list_append PySem.F.type_list_append mt_append (pv 1) (pa_cons (DE.pe (de_bin (p_int (C := fun _ _ => True) (g := (· - ·))) op_subC (de_callB p_len call_lenU b_len PySem.boot_len (da_cons (de_bor (pv 3)) da_nil)) de_int)) pa_nil)))) dss_nil)
    (dss_one (ds_ret (de_minN hr rfl b_min (da_cons (de_bin p_add op_addU (de_bor (pv 1)) (de_bor (pv 2))) da_nil)))))))))
theorem d_statements_in {P : Program} {w : World} {K : PySem.W.Frag} {mg : Str → Option Value} {base : Heap} (b_enumerate : mg "enumerate" = none) (b_tuple : mg "tuple" = none) (c_bodies_of : Ca P w K mg base "bodies_of" 8 fs_bodies_of) (c_name_of : Ca P w K mg base "name_of" 1 fs_name_of) {f : Addr} {fd : FuncData} (Fu : Fn K "statements_in" s_statements_in f fd) (hm : mg "statements_in" = some (.ref f)) : Ca P w K mg base "statements_in" 9 fs_statements_in := by
  have nd : (["text", "found", "section", "whens", "at", "body"] : List Str).Nodup := by decide +kernel
  refine ca_mk (N := ["text", "found", "section", "whens", "at", "body"]) (ps := ["text"]) (k := 8) (fs := fs_statements_in) (u := w_statements_in) Fu ⟨rfl, rfl, rfl, nd, rfl, by decide +kernel, by decide +kernel⟩ l_statements_in m_statements_in hm (Fu.bindsN fun _ _ _ _ _ _ us hl => match us, hl with | [_], _ => rfl) (fun cdv A outer s H E hr => ?_)
  have tk : Takes (cxOf (L2.CX P w) P w K mg base ["text", "found", "section", "whens", "at", "body"] "statements_in" (defScope s_statements_in) f cdv A outer s H E) (WD E) := takes_of rfl rfl rfl rfl
  exact (dss_cons (ds_set (de_lst da_nil) nd)
    (dss_cons (ds_set de_str nd)
    (dss_cons (ds_set (de_lst da_nil) nd)
    (dss_cons (ds_for (passes_of rfl) rfl (di_enum (da_cons (de_call tk c_bodies_of hr (by decide) (da_cons (de_var (pv 0)) da_nil)) da_nil) b_enumerate) (pg_t rfl (pgs_1 nd (pgs_1 nd pgs_0))) (dss_one (ds_if (dt_cmp p_eq (op_eqU hr.units) (de_ix p_ix ix_seq (de_bor (pv 5)) de_int) de_str) (dss_one (ds_set (de_ix p_ix ix_seq (de_bor (pv 5)) de_int) nd)) (dss_one (ds_if (dt_cmp p_eq (op_eqU hr.units) (de_ix p_ix ix_seq (de_bor (pv 5)) de_int) de_str) (dss_one (ds_append (pe_bm PySem.F.plainAttrs_list PySem.F.slot_list_append PySem.F.type_list_append mt_append (pv 3) (pa_cons (DE.pe (de_ix p_ix ix_seq (de_bor (pv 5)) de_int)) pa_nil)))) (dss_one (ds_if (dt_cmp p_eq (op_eqU hr.units) (de_ix p_ix ix_seq (de_bor (pv 5)) de_int) de_str) (dss_one (ds_pop (pe_bm0 PySem.F.plainAttrs_list PySem.F.slot_list_pop PySem.F.type_list_pop mt_pop (pv 3)))) (dss_one (ds_if (dt_cmp p_eq (op_eqU hr.units) (de_ix p_ix ix_seq (de_bor (pv 5)) de_int) de_str) (dss_one (ds_append (pe_bm PySem.F.plainAttrs_list PySem.F.slot_list_append PySem.F.type_list_append mt_append (pv 1) (pa_cons (DE.pe (de_tup (da_cons (de_var (pv 4)) (da_cons (de_call tk c_name_of hr (by decide) (da_cons (de_var (pv 2)) (da_cons (de_ix p_ix ix_seq (de_bor (pv 5)) de_int) da_nil))) (da_cons (de_ix p_ix ix_seq (de_bor (pv 5)) de_int) (da_cons (de_ix p_ix ix_seq (de_bor (pv 5)) de_int) (da_cons (de_callTy p_toTup call_tuple_of b_tuple (by decide +kernel) (da_cons (de_bor (pv 3)) da_nil)) da_nil))))))) pa_nil)))) dss_nil)))))))))
    (dss_one (ds_ret (de_take (pv 1))))))))
theorem d_check_stack {P : Program} {w : World} {K : PySem.W.Frag} {mg : Str → Option Value} {base : Heap} (b_all : mg "all" = none) (b_isinstance : mg "isinstance" = none) (b_str : mg "str" = none) (b_len : mg "len" = none) (b_sum : mg "sum" = none) (b_enumerate : mg "enumerate" = none) (g_MOST_LAYERS : Gc K mg "MOST_LAYERS" (PyData.int 40)) (g_MOST_LINES : Gc K mg "MOST_LINES" (PyData.int 2000)) (er_BadValue : Er K mg "BadValue" ["at"]) (er_TooMany : Er K mg "TooMany" ["word"]) (er_BadLine : Er K mg "BadLine" ["layer", "at"]) (c_is_sequence : Ca P w K mg base "is_sequence" 1 fs_is_sequence) (c_split_lines : Ca P w K mg base "split_lines" 1 fs_split_lines) (c_first_bad : Ca P w K mg base "first_bad" 9 fs_first_bad) {f : Addr} {fd : FuncData} (Fu : Fn K "check_stack" s_check_stack f fd) (hm : mg "check_stack" = some (.ref f)) : Ca P w K mg base "check_stack" 10 fs_check_stack := by
  have nd : (["value", "at", "text", "layer", "bad"] : List Str).Nodup := by decide +kernel
  refine ca_mk (N := ["value", "at", "text", "layer", "bad"]) (ps := ["value", "at"]) (k := 9) (fs := fs_check_stack) (u := w_check_stack) Fu ⟨rfl, rfl, rfl, nd, rfl, by decide +kernel, by decide +kernel⟩ l_check_stack m_check_stack hm (Fu.bindsN fun _ _ _ _ _ _ us hl => match us, hl with | [_, _], _ => rfl) (fun cdv A outer s H E hr => ?_)
  have tk : Takes (cxOf (L2.CX P w) P w K mg base ["value", "at", "text", "layer", "bad"] "check_stack" (defScope s_check_stack) f cdv A outer s H E) (WD E) := takes_of rfl rfl rfl rfl
  exact (dss_cons (ds_if ((dw_or (dt_not (dt_val (de_call tk c_is_sequence hr (by decide) (da_cons (de_var (pv 0)) da_nil)))) (dw_or1 (dt_not (dt_val (de_callB p_all (cr_all rfl) b_all (by decide +kernel) (da_cons (de_lc (own := [("text", 2)]) rfl nd (di_any (de_var (pv 0))) (blkOk_by (own := [("text", 2)]) (by show blkC ["value", "at", "text", "layer", "bad"] (defScope s_check_stack) _ _ = true; decide +kernel)) (fun _ _ _ _ _ => (pg_n nd)) (fun _ _ _ _ _ => dts_nil) (fun _ _ _ _ _ => (de_isi (de_bor (pv 2)) (by decide) (by decide +kernel) b_str b_isinstance))) da_nil))))))).dt (dss_one (ds_raiseE rfl tk er_BadValue hr (da_cons (de_var (pv 1)) da_nil))) dss_nil)
    (dss_cons (ds_if (dt_cmp p_cmp op_gtU (de_callB p_len call_lenU b_len PySem.boot_len (da_cons (de_bor (pv 0)) da_nil)) (de_glob g_MOST_LAYERS)) (dss_one (ds_raiseE rfl tk er_TooMany hr (da_cons de_str da_nil))) dss_nil)
    (dss_cons (ds_if (dt_cmp p_cmp op_gtU (de_callB p_sumI (cr_sum rfl) b_sum (by decide +kernel) (da_cons (de_lc (own := [("text", 2)]) rfl nd (di_any (de_var (pv 0))) (blkOk_by (own := [("text", 2)]) (by show blkC ["value", "at", "text", "layer", "bad"] (defScope s_check_stack) _ _ = true; decide +kernel)) (fun _ _ _ _ _ => (pg_n nd)) (fun _ _ _ _ _ => dts_nil) (fun _ _ _ _ _ => (de_callB p_len call_lenU b_len PySem.boot_len (da_cons (de_call takes0 c_split_lines hr (by decide) (da_cons (de_var (pv 2)) da_nil)) da_nil)))) da_nil)) (de_glob g_MOST_LINES)) (dss_one (ds_raiseE rfl tk er_TooMany hr (da_cons de_str da_nil))) dss_nil)
    (dss_one (ds_for (passes_of rfl) rfl (di_enum (da_cons (de_var (pv 0)) da_nil) b_enumerate) (pg_t rfl (pgs_1 nd (pgs_1 nd pgs_0))) (dss_cons (ds_set (de_call tk c_first_bad hr (by decide) (da_cons (de_var (pv 2)) da_nil)) nd)
    (dss_one (ds_if (dt_cmp p_notN op_notN (de_bor (pv 4)) de_non) (dss_one (ds_raiseE rfl tk er_BadLine hr (da_cons (de_var (pv 3)) (da_cons (de_var (pv 4)) da_nil)))) dss_nil))))))))
theorem d_check_text {P : Program} {w : World} {K : PySem.W.Frag} {mg : Str → Option Value} {base : Heap} (b_isinstance : mg "isinstance" = none) (b_str : mg "str" = none) (er_BadValue : Er K mg "BadValue" ["at"]) (c_check_stack : Ca P w K mg base "check_stack" 10 fs_check_stack) {f : Addr} {fd : FuncData} (Fu : Fn K "check_text" s_check_text f fd) (hm : mg "check_text" = some (.ref f)) : Ca P w K mg base "check_text" 11 fs_check_text := by
  have nd : (["value", "at"] : List Str).Nodup := by decide +kernel
  refine ca_mk (N := ["value", "at"]) (ps := ["value", "at"]) (k := 10) (fs := fs_check_text) (u := w_check_text) Fu ⟨rfl, rfl, rfl, nd, rfl, by decide +kernel, by decide +kernel⟩ l_check_text m_check_text hm (Fu.bindsN fun _ _ _ _ _ _ us hl => match us, hl with | [_, _], _ => rfl) (fun cdv A outer s H E hr => ?_)
  have tk : Takes (cxOf (L2.CX P w) P w K mg base ["value", "at"] "check_text" (defScope s_check_text) f cdv A outer s H E) (WD E) := takes_of rfl rfl rfl rfl
  exact (dss_cons (ds_if (dt_not (dt_val (de_isi (de_bor (pv 0)) (by decide) (by decide +kernel) b_str b_isinstance))) (dss_one (ds_raiseE rfl tk er_BadValue hr (da_cons (de_var (pv 1)) da_nil))) dss_nil)
    (dss_one (ds_expr (de_call tk c_check_stack hr (by decide) (da_cons (de_tup (da_cons (de_var (pv 0)) da_nil)) (da_cons (de_var (pv 1)) da_nil))))))
theorem d_is_text {P : Program} {w : World} {K : PySem.W.Frag} {mg : Str → Option Value} {base : Heap} (b_isinstance : mg "isinstance" = none) (b_str : mg "str" = none) (b_len : mg "len" = none) (g_MOST_LINES : Gc K mg "MOST_LINES" (PyData.int 2000)) (c_split_lines : Ca P w K mg base "split_lines" 1 fs_split_lines) (c_first_bad : Ca P w K mg base "first_bad" 9 fs_first_bad) {f : Addr} {fd : FuncData} (Fu : Fn K "is_text" s_is_text f fd) (hm : mg "is_text" = some (.ref f)) : Ca P w K mg base "is_text" 10 fs_is_text := by
  have nd : (["value"] : List Str).Nodup := by decide +kernel
  refine ca_mk (N := ["value"]) (ps := ["value"]) (k := 9) (fs := fs_is_text) (u := w_is_text) Fu ⟨rfl, rfl, rfl, nd, rfl, by decide +kernel, by decide +kernel⟩ l_is_text m_is_text hm (Fu.bindsN fun _ _ _ _ _ _ us hl => match us, hl with | [_], _ => rfl) (fun cdv A outer s H E hr => ?_)
  have tk : Takes (cxOf (L2.CX P w) P w K mg base ["value"] "is_text" (defScope s_is_text) f cdv A outer s H E) (WD E) := takes_of rfl rfl rfl rfl
  exact (dss_one (ds_ret (de_and (de_isi (de_bor (pv 0)) (by decide) (by decide +kernel) b_str b_isinstance) (de_and (de_cmp p_cmp op_leU (de_callB p_len call_lenU b_len PySem.boot_len (da_cons (de_call tk c_split_lines hr (by decide) (da_cons (de_var (pv 0)) da_nil)) da_nil)) (de_glob g_MOST_LINES)) (de_one (de_cmp p_isN op_isN (de_call tk c_first_bad hr (by decide) (da_cons (de_var (pv 0)) da_nil)) de_non))))))
theorem d_lines_of {P : Program} {w : World} {K : PySem.W.Frag} {mg : Str → Option Value} {base : Heap} (b_isinstance : mg "isinstance" = none) (b_str : mg "str" = none) (b_tuple : mg "tuple" = none) (er_BadValue : Er K mg "BadValue" ["at"]) (c_split_lines : Ca P w K mg base "split_lines" 1 fs_split_lines) {f : Addr} {fd : FuncData} (Fu : Fn K "lines_of" s_lines_of f fd) (hm : mg "lines_of" = some (.ref f)) : Ca P w K mg base "lines_of" 2 fs_lines_of := by
  have nd : (["text"] : List Str).Nodup := by decide +kernel
  refine ca_mk (N := ["text"]) (ps := ["text"]) (k := 1) (fs := fs_lines_of) (u := w_lines_of) Fu ⟨rfl, rfl, rfl, nd, rfl, by decide +kernel, by decide +kernel⟩ l_lines_of m_lines_of hm (Fu.bindsN fun _ _ _ _ _ _ us hl => match us, hl with | [_], _ => rfl) (fun cdv A outer s H E hr => ?_)
  have tk : Takes (cxOf (L2.CX P w) P w K mg base ["text"] "lines_of" (defScope s_lines_of) f cdv A outer s H E) (WD E) := takes_of rfl rfl rfl rfl
  exact (dss_cons (ds_if ((dw_or (dt_not (dt_val (de_isi (de_bor (pv 0)) (by decide) (by decide +kernel) b_str b_isinstance))) (dw_or1 ((dw_and (dt_cmp p_ne (op_neU hr.units) (de_bor (pv 0)) de_str) (dw_and1 (dt_not (dt_val (de_m1 p_end PySem.F.slot_str_endswith PySem.F.type_str_endswith mt_endswith (de_var (pv 0)) de_str)))))).dt))).dt (dss_one (ds_raiseE rfl tk er_BadValue hr (da_cons de_int da_nil))) dss_nil)
    (dss_one (ds_ret (de_callTy p_toTup call_tuple_of b_tuple (by decide +kernel) (da_cons (de_call tk c_split_lines hr (by decide) (da_cons (de_var (pv 0)) da_nil)) da_nil)))))
theorem d_joined {P : Program} {w : World} {K : PySem.W.Frag} {mg : Str → Option Value} {base : Heap} (b_all : mg "all" = none) (b_isinstance : mg "isinstance" = none) (b_str : mg "str" = none) (er_BadValue : Er K mg "BadValue" ["at"]) (c_is_sequence : Ca P w K mg base "is_sequence" 1 fs_is_sequence) {f : Addr} {fd : FuncData} (Fu : Fn K "joined" s_joined f fd) (hm : mg "joined" = some (.ref f)) : Ca P w K mg base "joined" 2 fs_joined := by
  have nd : (["lines", "line"] : List Str).Nodup := by decide +kernel
  refine ca_mk (N := ["lines", "line"]) (ps := ["lines"]) (k := 1) (fs := fs_joined) (u := w_joined) Fu ⟨rfl, rfl, rfl, nd, rfl, by decide +kernel, by decide +kernel⟩ l_joined m_joined hm (Fu.bindsN fun _ _ _ _ _ _ us hl => match us, hl with | [_], _ => rfl) (fun cdv A outer s H E hr => ?_)
  have tk : Takes (cxOf (L2.CX P w) P w K mg base ["lines", "line"] "joined" (defScope s_joined) f cdv A outer s H E) (WD E) := takes_of rfl rfl rfl rfl
  exact (dss_cons (ds_if ((dw_or (dt_not (dt_val (de_call tk c_is_sequence hr (by decide) (da_cons (de_var (pv 0)) da_nil)))) (dw_or1 (dt_not (dt_val (de_callB p_all (cr_all rfl) b_all (by decide +kernel) (da_cons (de_lc (own := [("line", 1)]) rfl nd (di_any (de_var (pv 0))) (blkOk_by (own := [("line", 1)]) (by show blkC ["lines", "line"] (defScope s_joined) _ _ = true; decide +kernel)) (fun _ _ _ _ _ => (pg_n nd)) (fun _ _ _ _ _ => dts_nil) (fun _ _ _ _ _ => (de_and (de_isi (de_bor (pv 1)) (by decide) (by decide +kernel) b_str b_isinstance) (de_one (de_cmp p_in op_ninU de_str (de_bor (pv 1))))))) da_nil))))))).dt (dss_one (ds_raiseE rfl tk er_BadValue hr (da_cons de_int da_nil))) dss_nil)
    (dss_one (ds_ret (de_m1 p_join PySem.F.slot_str_join PySem.F.type_str_join mt_join de_str (de_lc (own := [("line", 1)]) rfl nd (di_any (de_var (pv 0))) (blkOk_by (own := [("line", 1)]) (by show blkC ["lines", "line"] (defScope s_joined) _ _ = true; decide +kernel)) (fun _ _ _ _ _ => (pg_n nd)) (fun _ _ _ _ _ => dts_nil) (fun _ _ _ _ _ => (de_bin p_add op_addU (de_bor (pv 1)) de_str)))))))
theorem d_statements {P : Program} {w : World} {K : PySem.W.Frag} {mg : Str → Option Value} {base : Heap} (b_tuple : mg "tuple" = none) (c_check_text : Ca P w K mg base "check_text" 11 fs_check_text) (c_statements_in : Ca P w K mg base "statements_in" 9 fs_statements_in) {f : Addr} {fd : FuncData} (Fu : Fn K "statements" s_statements f fd) (hm : mg "statements" = some (.ref f)) : Ca P w K mg base "statements" 12 fs_statements := by
  have nd : (["text"] : List Str).Nodup := by decide +kernel
  refine ca_mk (N := ["text"]) (ps := ["text"]) (k := 11) (fs := fs_statements) (u := w_statements) Fu ⟨rfl, rfl, rfl, nd, rfl, by decide +kernel, by decide +kernel⟩ l_statements m_statements hm (Fu.bindsN fun _ _ _ _ _ _ us hl => match us, hl with | [_], _ => rfl) (fun cdv A outer s H E hr => ?_)
  have tk : Takes (cxOf (L2.CX P w) P w K mg base ["text"] "statements" (defScope s_statements) f cdv A outer s H E) (WD E) := takes_of rfl rfl rfl rfl
  exact (dss_cons (ds_expr (de_call tk c_check_text hr (by decide) (da_cons (de_var (pv 0)) (da_cons de_int da_nil))))
    (dss_one (ds_ret (de_callTy p_toTup call_tuple_of b_tuple (by decide +kernel) (da_cons (de_call tk c_statements_in hr (by decide) (da_cons (de_var (pv 0)) da_nil)) da_nil)))))
theorem dr__law_so {P : Program} {w : World} {K : PySem.W.Frag} {mg : Str → Option Value} {base : Heap} (b_isinstance : mg "isinstance" = none) (b_tuple : mg "tuple" = none) (b_len : mg "len" = none) (b_range : mg "range" = none) (b_bool : mg "bool" = none) (b_int : mg "int" = none) (b_str : mg "str" = none) {f : Addr} {fd : FuncData} (Fu : Fn K "_law_so" s__law_so f fd) (hm : mg "_law_so" = some (.ref f)) : ∀ n : Nat, Ca P w K mg base "_law_so" (n + 1) (fsr__law_so n)
  | 0 => by
    exact (ca_mk (N := ["found", "meant", "k"]) (ps := ["found", "meant"]) (k := 0) (fs := fsr__law_so 0) (u := wNever) Fu ⟨rfl, rfl, rfl, by decide +kernel, rfl, by decide +kernel, by decide +kernel⟩ (l__law_so 0) (fun as Q X h => (z__law_so as Q X h).elim) hm (Fu.bindsN fun _ _ _ _ _ _ us hl => match us, hl with | [_, _], _ => rfl) (fun cdv A outer s H E hr => dss_never)).mono (by omega)
  | n + 1 => by
    have c__law_so := dr__law_so (P := P) (w := w) (base := base) b_isinstance b_tuple b_len b_range b_bool b_int b_str Fu hm n
    have nd : (["found", "meant", "k"] : List Str).Nodup := by decide +kernel
    refine Ca.mono (k := n + 2) (j := n + 1 + 1) ?_ (by omega)
    refine ca_mk (N := ["found", "meant", "k"]) (ps := ["found", "meant"]) (k := n + 1) (fs := (fsr__law_so (n + 1))) (u := (w__law_so (fsr__law_so n))) Fu ⟨rfl, rfl, rfl, nd, rfl, by decide +kernel, by decide +kernel⟩ (l__law_so (n + 1)) (m__law_so n) hm (Fu.bindsN fun _ _ _ _ _ _ us hl => match us, hl with | [_, _], _ => rfl) (fun cdv A outer s H E hr => ?_)
    have tk : Takes (cxOf (L2.CX P w) P w K mg base ["found", "meant", "k"] "_law_so" (defScope s__law_so) f cdv A outer s H E) (WD E) := takes_of rfl rfl rfl rfl
    exact (dss_cons (ds_if (dt_cmp p_isN op_isN (de_bor (pv 1)) de_non) (dss_one (ds_ret (de_cmp p_isN op_isN (de_bor (pv 0)) de_non))) dss_nil)
    (dss_cons (ds_if (dt_val (de_isi (de_bor (pv 1)) (by decide) (by decide +kernel) b_tuple b_isinstance)) (dss_cons (ds_if ((dw_or (dt_not (dt_val (de_isi (de_bor (pv 0)) (by decide) (by decide +kernel) b_tuple b_isinstance))) (dw_or1 (dt_cmp p_ne (op_neU hr.units) (de_callB p_len call_lenU b_len PySem.boot_len (da_cons (de_bor (pv 0)) da_nil)) (de_callB p_len call_lenU b_len PySem.boot_len (da_cons (de_bor (pv 1)) da_nil)))))).dt (dss_one (ds_ret de_bl)) dss_nil)
    (dss_cons (ds_for (passes_of rfl) rfl (di_rng1 (da_cons (de_callB p_len call_lenU b_len PySem.boot_len (da_cons (de_bor (pv 1)) da_nil)) da_nil) b_range) (pg_n nd) (dss_one (ds_if (dt_not (dt_val (de_call tk c__law_so hr (by omega) (da_cons (de_ix p_ix ix_seq (de_bor (pv 0)) (de_var (pv 2))) (da_cons (de_ix p_ix ix_seq (de_bor (pv 1)) (de_var (pv 2))) da_nil))))) (dss_one (ds_ret de_bl)) dss_nil)))
    (dss_one (ds_ret de_bl)))) dss_nil)
    (dss_cons (ds_if ((dw_or (dt_val (de_isi (de_bor (pv 1)) (by decide) (by decide +kernel) b_bool b_isinstance)) (dw_or1 (dt_val (de_isi (de_bor (pv 0)) (by decide) (by decide +kernel) b_bool b_isinstance))))).dt (dss_one (ds_ret (de_and (de_isi (de_bor (pv 1)) (by decide) (by decide +kernel) b_bool b_isinstance) (de_and (de_isi (de_bor (pv 0)) (by decide) (by decide +kernel) b_bool b_isinstance) (de_one (de_cmp p_eq (op_eqU hr.units) (de_bor (pv 0)) (de_bor (pv 1)))))))) dss_nil)
    (dss_cons (ds_if (dt_val (de_isi (de_bor (pv 1)) (by decide) (by decide +kernel) b_int b_isinstance)) (dss_one (ds_ret (de_and (de_isi (de_bor (pv 0)) (by decide) (by decide +kernel) b_int b_isinstance) (de_one (de_cmp p_eq (op_eqU hr.units) (de_bor (pv 0)) (de_bor (pv 1))))))) dss_nil)
    (dss_one (ds_ret (de_and (de_isi (de_bor (pv 1)) (by decide) (by decide +kernel) b_str b_isinstance) (de_and (de_isi (de_bor (pv 0)) (by decide) (by decide +kernel) b_str b_isinstance) (de_one (de_cmp p_eq (op_eqU hr.units) (de_bor (pv 0)) (de_bor (pv 1))))))))))))
theorem d__law_so {P : Program} {w : World} {K : PySem.W.Frag} {mg : Str → Option Value} {base : Heap} (b_isinstance : mg "isinstance" = none) (b_tuple : mg "tuple" = none) (b_len : mg "len" = none) (b_range : mg "range" = none) (b_bool : mg "bool" = none) (b_int : mg "int" = none) (b_str : mg "str" = none) {f : Addr} {fd : FuncData} (Fu : Fn K "_law_so" s__law_so f fd) (hm : mg "_law_so" = some (.ref f)) : Ca P w K mg base "_law_so" 13 fs__law_so := dr__law_so b_isinstance b_tuple b_len b_range b_bool b_int b_str Fu hm 12
theorem d__law_numbers {P : Program} {w : World} {K : PySem.W.Frag} {mg : Str → Option Value} {base : Heap} (b_range : mg "range" = none) (b_int : mg "int" = none) (b_len : mg "len" = none) {f : Addr} {fd : FuncData} (Fu : Fn K "_law_numbers" s__law_numbers f fd) (hm : mg "_law_numbers" = some (.ref f)) : Ca P w K mg base "_law_numbers" 1 fs__law_numbers := by
  have nd : (["script", "row", "cell", "left", "k", "mixed"] : List Str).Nodup := by decide +kernel
  refine ca_mk (N := ["script", "row", "cell", "left", "k", "mixed"]) (ps := ["script"]) (k := 0) (fs := fs__law_numbers) (u := w__law_numbers) Fu ⟨rfl, rfl, rfl, nd, rfl, by decide +kernel, by decide +kernel⟩ l__law_numbers m__law_numbers hm (Fu.bindsN fun _ _ _ _ _ _ us hl => match us, hl with | [_], _ => rfl) (fun cdv A outer s H E hr => ?_)
  exact (dss_cons (ds_set (de_lst da_nil) nd)
    (dss_cons (ds_for (passes_of rfl) rfl (di_any (de_sl p_sl sl_U (de_bor (pv 0)) do_none (do_some de_int))) (pg_n nd) (dss_one (ds_if (dt_cmp p_cmp op_geU (de_bor (pv 2)) (de_bin (p_int (C := CPow) (g := fun i j => i ^ j.toNat)) op_pow de_int de_int)) (dss_cons (ds_set (de_var (pv 2)) nd)
    (dss_one (ds_for (passes_of rfl) rfl (di_rng1 (da_cons de_int da_nil) b_range) (pg_n nd) (dss_cons (ds_if (dt_cmp p_eq (op_eqU hr.units) (de_bor (pv 3)) de_int) (dss_one ds_break) dss_nil)
    (dss_cons (ds_append (pe_bm PySem.F.plainAttrs_list PySem.F.slot_list_append PySem.F.type_list_append mt_append (pv 1) (pa_cons (DE.pe (de_bin (p_int (C := fun _ j => 0 < j) (g := (· % ·))) op_mod (de_callTy p_toInt call_int1 b_int (by decide +kernel) (da_cons (de_bor (pv 3)) da_nil)) de_int)) pa_nil)))
    (dss_one (ds_set (de_bin (p_int (C := CDiv) (g := (· / ·))) op_fdiv (de_bor (pv 3)) de_int) nd))))))) (dss_one (ds_for (passes_of rfl) rfl (di_rng1 (da_cons de_int da_nil) b_range) (pg_n nd) (dss_cons (ds_set (de_bin (p_int (C := fun _ j => 0 < j) (g := (· % ·))) op_mod (de_callTy p_toInt call_int1 b_int (by decide +kernel) (da_cons (de_bin p_add op_addU (de_bin p_add op_addU (de_bin (p_int (C := CMul) (g := (· * ·))) op_mul (de_bor (pv 2)) de_int) (de_bin (p_int (C := CMul) (g := (· * ·))) op_mul (de_bor (pv 4)) de_int)) de_int) da_nil)) de_int) nd)
    (dss_one (ds_append (pe_bm PySem.F.plainAttrs_list PySem.F.slot_list_append PySem.F.type_list_append mt_append (pv 1) (pa_cons (DE.pe (de_bin (p_int (C := fun _ j => 0 < j) (g := (· % ·))) op_mod (de_callTy p_toInt call_int1 b_int (by decide +kernel) (da_cons (de_bin p_add op_addU (de_bin (p_int (C := CMul) (g := (· * ·))) op_mul (de_bor (pv 5)) de_int) (de_bor (pv 4))) da_nil)) de_int)) pa_nil))))))))))
    (dss_cons (ds_if (dt_cmp p_eq (op_eqU hr.units) (de_callB p_len call_lenU b_len PySem.boot_len (da_cons (de_bor (pv 1)) da_nil)) de_int) (dss_one (ds_append (pe_bm PySem.F.plainAttrs_list PySem.F.slot_list_append PySem.F.type_list_append mt_append (pv 1) (pa_cons (DE.pe de_int) pa_nil)))) dss_nil)
    (dss_one (ds_ret (de_take (pv 1)))))))
theorem d__law_draw {P : Program} {w : World} {K : PySem.W.Frag} {mg : Str → Option Value} {base : Heap} (b_len : mg "len" = none) (b_int : mg "int" = none) {f : Addr} {fd : FuncData} (Fu : Fn K "_law_draw" s__law_draw f fd) (hm : mg "_law_draw" = some (.ref f)) : Ca P w K mg base "_law_draw" 1 fs__law_draw := by
  have nd : (["row", "at", "limit", "mixed"] : List Str).Nodup := by decide +kernel
  refine ca_mk (N := ["row", "at", "limit", "mixed"]) (ps := ["row", "at", "limit"]) (k := 0) (fs := fs__law_draw) (u := w__law_draw) Fu ⟨rfl, rfl, rfl, nd, rfl, by decide +kernel, by decide +kernel⟩ l__law_draw m__law_draw hm (Fu.bindsN fun _ _ _ _ _ _ us hl => match us, hl with | [_, _, _], _ => rfl) (fun cdv A outer s H E hr => ?_)
  exact (dss_cons (ds_if (dt_cmp p_cmp op_ltU (de_bor (pv 1)) (de_callB p_len call_lenU b_len PySem.boot_len (da_cons (de_bor (pv 0)) da_nil))) (dss_one (ds_ret (de_bin (p_int (C := fun _ j => 0 < j) (g := (· % ·))) op_mod (de_callTy p_toInt call_int1 b_int (by decide +kernel) (da_cons (de_ix p_ix ix_seq (de_bor (pv 0)) (de_var (pv 1))) da_nil)) (de_bor (pv 2))))) dss_nil)
    (dss_cons (ds_set (de_bin (p_int (C := fun _ j => 0 < j) (g := (· % ·))) op_mod (de_callTy p_toInt call_int1 b_int (by decide +kernel) (da_cons (de_bin p_add op_addU (de_bin p_add op_addU (de_bin (p_int (C := CMul) (g := (· * ·))) op_mul (de_ix p_ix ix_seq (de_bor (pv 0)) (de_bin (p_int (C := fun _ j => 0 < j) (g := (· % ·))) op_mod (de_callTy p_toInt call_int1 b_int (by decide +kernel) (da_cons (de_bor (pv 1)) da_nil)) (de_callB p_len call_lenU b_len PySem.boot_len (da_cons (de_bor (pv 0)) da_nil)))) de_int) (de_bin (p_int (C := CMul) (g := (· * ·))) op_mul (de_bor (pv 1)) de_int)) de_int) da_nil)) de_int) nd)
    (dss_one (ds_ret (de_bin (p_int (C := fun _ j => 0 < j) (g := (· % ·))) op_mod (de_callTy p_toInt call_int1 b_int (by decide +kernel) (da_cons (de_bin (p_int (C := fun _ j => 0 < j) (g := (· % ·))) op_mod (de_callTy p_toInt call_int1 b_int (by decide +kernel) (da_cons (de_bin p_add op_addU (de_bin (p_int (C := CMul) (g := (· * ·))) op_mul (de_bor (pv 3)) de_int) (de_bor (pv 1))) da_nil)) de_int) da_nil)) (de_bor (pv 2)))))))
theorem d__law_take {P : Program} {w : World} {K : PySem.W.Frag} {mg : Str → Option Value} {base : Heap} (c__law_draw : Ca P w K mg base "_law_draw" 1 fs__law_draw) {f : Addr} {fd : FuncData} (Fu : Fn K "_law_take" s__law_take f fd) (hm : mg "_law_take" = some (.ref f)) : Ca P w K mg base "_law_take" 2 fs__law_take := by
  have nd : (["row", "spot", "limit"] : List Str).Nodup := by decide +kernel
  refine ca_mk (N := ["row", "spot", "limit"]) (ps := ["row", "spot", "limit"]) (k := 1) (fs := fs__law_take) (u := w__law_take) Fu ⟨rfl, rfl, rfl, nd, rfl, by decide +kernel, by decide +kernel⟩ l__law_take m__law_take hm (Fu.bindsN fun _ _ _ _ _ _ us hl => match us, hl with | [_, _, _], _ => rfl) (fun cdv A outer s H E hr => ?_)
  have tk : Takes (cxOf (L2.CX P w) P w K mg base ["row", "spot", "limit"] "_law_take" (defScope s__law_take) f cdv A outer s H E) (WD E) := takes_of rfl rfl rfl rfl
  exact (dss_cons (ds_setIx (pv 1) (de_bin p_add op_addU (de_ix p_ix ix_seq (de_bor (pv 1)) de_int) de_int) de_int)
    (dss_one (ds_ret (de_call tk c__law_draw hr (by decide) (da_cons (de_var (pv 0)) (da_cons (de_bin (p_int (C := fun _ _ => True) (g := (· - ·))) op_subC (de_ix p_ix ix_seq (de_bor (pv 1)) de_int) de_int) (da_cons (de_var (pv 2)) da_nil)))))))
theorem d__law_letters {P : Program} {w : World} {K : PySem.W.Frag} {mg : Str → Option Value} {base : Heap} (b_range : mg "range" = none) (b_len : mg "len" = none) (c__law_take : Ca P w K mg base "_law_take" 2 fs__law_take) {f : Addr} {fd : FuncData} (Fu : Fn K "_law_letters" s__law_letters f fd) (hm : mg "_law_letters" = some (.ref f)) : Ca P w K mg base "_law_letters" 3 fs__law_letters := by
  have nd : (["row", "spot", "many", "signs", "made", "k"] : List Str).Nodup := by decide +kernel
  refine ca_mk (N := ["row", "spot", "many", "signs", "made", "k"]) (ps := ["row", "spot", "many", "signs"]) (k := 2) (fs := fs__law_letters) (u := w__law_letters) Fu ⟨rfl, rfl, rfl, nd, rfl, by decide +kernel, by decide +kernel⟩ l__law_letters m__law_letters hm (Fu.bindsN fun _ _ _ _ _ _ us hl => match us, hl with | [_, _, _, _], _ => rfl) (fun cdv A outer s H E hr => ?_)
  have tk : Takes (cxOf (L2.CX P w) P w K mg base ["row", "spot", "many", "signs", "made", "k"] "_law_letters" (defScope s__law_letters) f cdv A outer s H E) (WD E) := takes_of rfl rfl rfl rfl
  exact (dss_cons (ds_set de_str nd)
    (dss_cons (ds_for (passes_of rfl) rfl (di_rng1 (da_cons (de_var (pv 2)) da_nil) b_range) (pg_n nd) (dss_one (ds_set (de_bin p_add op_addU (de_bor (pv 4)) (de_ix p_ix ix_seq (de_bor (pv 3)) (de_call tk c__law_take hr (by decide) (da_cons (de_var (pv 0)) (da_cons (de_bor (pv 1)) (da_cons (de_callB p_len call_lenU b_len PySem.boot_len (da_cons (de_bor (pv 3)) da_nil)) da_nil)))))) nd)))
    (dss_one (ds_ret (de_take (pv 4))))))
theorem d__law_text_fault {P : Program} {w : World} {K : PySem.W.Frag} {mg : Str → Option Value} {base : Heap} (ct_BadValue : Ct K mg "BadValue" ["at"] [("BadValue", true), ("BadLine", false), ("TooMany", false)]) (ct_BadLine : Ct K mg "BadLine" ["layer", "at"] [("BadValue", false), ("BadLine", true), ("TooMany", false)]) (ct_TooMany : Ct K mg "TooMany" ["word"] [("BadValue", false), ("BadLine", false), ("TooMany", true)]) (c_lines_of : Ca P w K mg base "lines_of" 2 fs_lines_of) (c_joined : Ca P w K mg base "joined" 2 fs_joined) (c_statements : Ca P w K mg base "statements" 12 fs_statements) {f : Addr} {fd : FuncData} (Fu : Fn K "_law_text_fault" s__law_text_fault f fd) (hm : mg "_law_text_fault" = some (.ref f)) : Ca P w K mg base "_law_text_fault" 13 fs__law_text_fault := by
  have nd : (["kind", "first", "error"] : List Str).Nodup := by decide +kernel
  refine ca_mk (N := ["kind", "first", "error"]) (ps := ["kind", "first"]) (k := 12) (fs := fs__law_text_fault) (u := w__law_text_fault) Fu ⟨rfl, rfl, rfl, nd, rfl, by decide +kernel, by decide +kernel⟩ l__law_text_fault m__law_text_fault hm (Fu.bindsN fun _ _ _ _ _ _ us hl => match us, hl with | [_, _], _ => rfl) (fun cdv A outer s H E hr => ?_)
  have tk : Takes (cxOf (L2.CX P w) P w K mg base ["kind", "first", "error"] "_law_text_fault" (defScope s__law_text_fault) f cdv A outer s H E) (WD E) := takes_of rfl rfl rfl rfl
  exact (dss_cons (ds_tryN rfl rfl nd tk (cl_cons ct_BadValue (fun C T => sv_tup2 T (by decide +kernel) (fun a pn => pv 2)) (cl_cons ct_BadLine (fun C T => sv_tup3 T (by decide +kernel) (by decide +kernel) (fun a pn => pv 2) (fun a pn => pv 2)) (cl_cons ct_TooMany (fun C T => sv_tup2 T (by decide +kernel) (fun a pn => pv 2)) cl_nil))) (fun W pn xe tk => (dss_one (ds_if (dt_cmp p_eq (op_eqU hr.units) (de_bor (pv 0)) de_int) (dss_one (ds_expr (de_call tk c_lines_of hr (by decide) (da_cons (de_var (pv 1)) da_nil)))) (dss_one (ds_if (dt_cmp p_eq (op_eqU hr.units) (de_bor (pv 0)) de_int) (dss_one (ds_expr (de_call tk c_joined hr (by decide) (da_cons (de_var (pv 1)) da_nil)))) (dss_one (ds_expr (de_call tk c_statements hr (by decide) (da_cons (de_var (pv 1)) da_nil))))))))))
    (dss_one (ds_ret de_non)))
theorem d__law_long_word {P : Program} {w : World} {K : PySem.W.Frag} {mg : Str → Option Value} {base : Heap} (c__law_take : Ca P w K mg base "_law_take" 2 fs__law_take) (c__law_letters : Ca P w K mg base "_law_letters" 3 fs__law_letters) {f : Addr} {fd : FuncData} (Fu : Fn K "_law_long_word" s__law_long_word f fd) (hm : mg "_law_long_word" = some (.ref f)) : Ca P w K mg base "_law_long_word" 4 fs__law_long_word := by
  have nd : (["row", "spot", "signs"] : List Str).Nodup := by decide +kernel
  refine ca_mk (N := ["row", "spot", "signs"]) (ps := ["row", "spot", "signs"]) (k := 3) (fs := fs__law_long_word) (u := w__law_long_word) Fu ⟨rfl, rfl, rfl, nd, rfl, by decide +kernel, by decide +kernel⟩ l__law_long_word m__law_long_word hm (Fu.bindsN fun _ _ _ _ _ _ us hl => match us, hl with | [_, _, _], _ => rfl) (fun cdv A outer s H E hr => ?_)
  have tk : Takes (cxOf (L2.CX P w) P w K mg base ["row", "spot", "signs"] "_law_long_word" (defScope s__law_long_word) f cdv A outer s H E) (WD E) := takes_of rfl rfl rfl rfl
  exact (dss_cons (ds_if (dt_cmp p_cmp op_gtU (de_call tk c__law_take hr (by decide) (da_cons (de_var (pv 0)) (da_cons (de_bor (pv 1)) (da_cons de_int da_nil)))) de_int) (dss_one (ds_ret (de_sl p_sl sl_U de_str do_none (do_some (de_bin p_add op_addU de_int (de_call tk c__law_take hr (by decide) (da_cons (de_var (pv 0)) (da_cons (de_bor (pv 1)) (da_cons de_int da_nil))))))))) dss_nil)
    (dss_one (ds_ret (de_bin p_add op_addU de_str (de_call tk c__law_letters hr (by decide) (da_cons (de_var (pv 0)) (da_cons (de_bor (pv 1)) (da_cons de_int (da_cons (de_var (pv 2)) da_nil)))))))))
theorem d__law_wrong_word {P : Program} {w : World} {K : PySem.W.Frag} {mg : Str → Option Value} {base : Heap} (b_range : mg "range" = none) (b_len : mg "len" = none) (c__law_take : Ca P w K mg base "_law_take" 2 fs__law_take) {f : Addr} {fd : FuncData} (Fu : Fn K "_law_wrong_word" s__law_wrong_word f fd) (hm : mg "_law_wrong_word" = some (.ref f)) : Ca P w K mg base "_law_wrong_word" 3 fs__law_wrong_word := by
  have nd : (["row", "spot", "word", "kind", "lacks", "signs", "style", "k", "at", "sign"] : List Str).Nodup := by decide +kernel
  refine ca_mk (N := ["row", "spot", "word", "kind", "lacks", "signs", "style", "k", "at", "sign"]) (ps := ["row", "spot", "word", "kind"]) (k := 2) (fs := fs__law_wrong_word) (u := w__law_wrong_word) Fu ⟨rfl, rfl, rfl, nd, rfl, by decide +kernel, by decide +kernel⟩ l__law_wrong_word m__law_wrong_word hm (Fu.bindsN fun _ _ _ _ _ _ us hl => match us, hl with | [_, _, _, _], _ => rfl) (fun cdv A outer s H E hr => ?_)
  have tk : Takes (cxOf (L2.CX P w) P w K mg base ["row", "spot", "word", "kind", "lacks", "signs", "style", "k", "at", "sign"] "_law_wrong_word" (defScope s__law_wrong_word) f cdv A outer s H E) (WD E) := takes_of rfl rfl rfl rfl
  exact (dss_cons (ds_set (de_disp (pps_cons pe_str pe_str (pps_cons pe_str pe_str (pps_cons pe_str pe_str (pps_cons pe_str pe_str pps_nil)))) (by decide +kernel) rfl rfl (by intro z; cases z) (by decide) (by decide)) nd)
    (dss_cons (ds_set (de_if (dt_cmp p_eq (op_eqU hr.units) (de_bor (pv 3)) de_str) (de_repl (de_dget (hu_of hr) (de_bor (pv 4)) de_str) (by decide +kernel) (by decide +kernel)) (de_dget (hu_of hr) (de_bor (pv 4)) (de_var (pv 3)))) nd)
    (dss_cons (ds_set (de_call tk c__law_take hr (by decide) (da_cons (de_var (pv 0)) (da_cons (de_bor (pv 1)) (da_cons de_int da_nil)))) nd)
    (dss_cons (ds_if (dt_cmp p_eq (op_eqU hr.units) (de_bor (pv 6)) de_int) (dss_one (ds_ret (de_bin p_add op_addU (de_bor (pv 2)) (de_m1 p_join PySem.F.slot_str_join PySem.F.type_str_join mt_join de_str (de_lc (own := [("k", 7)]) rfl nd (di_rng1 (da_cons (de_bin (p_int (C := fun _ _ => True) (g := (· - ·))) op_subC de_int (de_callB p_len call_lenU b_len PySem.boot_len (da_cons (de_bor (pv 2)) da_nil))) da_nil) b_range) (blkOk_by (own := [("k", 7)]) (by show blkC ["row", "spot", "word", "kind", "lacks", "signs", "style", "k", "at", "sign"] (defScope s__law_wrong_word) _ _ = true; decide +kernel)) (fun _ _ _ _ _ => (pg_n nd)) (fun _ _ _ _ _ => dts_nil) (fun _ _ _ _ _ => de_str)))))) dss_nil)
    (dss_cons (ds_if (dt_cmp p_eq (op_eqU hr.units) (de_bor (pv 6)) de_int) (dss_one (ds_ret de_str)) dss_nil)
    (dss_cons (ds_if ((dw_and (dt_cmp p_eq (op_eqU hr.units) (de_bor (pv 6)) de_int) (dw_and1 (dt_cmp p_eq (op_eqU hr.units) (de_bor (pv 3)) de_str)))).dt (dss_one (ds_ret (de_ix p_ix ix_seq (de_lst (da_cons de_str (da_cons de_str (da_cons de_str (da_cons de_str da_nil))))) (de_call tk c__law_take hr (by decide) (da_cons (de_var (pv 0)) (da_cons (de_bor (pv 1)) (da_cons de_int da_nil))))))) dss_nil)
    (dss_cons (ds_if ((dw_and (dt_cmp p_eq (op_eqU hr.units) (de_bor (pv 6)) de_int) (dw_and1 (dt_cmp p_in op_inU (de_bor (pv 3)) (de_lst (da_cons de_str (da_cons de_str da_nil))))))).dt (dss_one (ds_ret (de_bin p_add op_addU de_str (de_sl p_sl sl_U (de_bor (pv 2)) (do_some de_int) do_none)))) dss_nil)
    (dss_cons (ds_if (dt_cmp p_eq (op_eqU hr.units) (de_bor (pv 6)) de_int) (dss_one (ds_ret (de_if (dt_cmp p_eq (op_eqU hr.units) (de_bor (pv 3)) de_str) (de_bin p_add op_addU (de_sl p_sl sl_U (de_bor (pv 2)) do_none (do_some de_int)) de_str) de_str))) dss_nil)
    (dss_cons (ds_set (de_call tk c__law_take hr (by decide) (da_cons (de_var (pv 0)) (da_cons (de_bor (pv 1)) (da_cons (de_bin p_add op_addU (de_callB p_len call_lenU b_len PySem.boot_len (da_cons (de_bor (pv 2)) da_nil)) de_int) da_nil)))) nd)
    (dss_cons (ds_set (de_ix p_ix ix_seq (de_bor (pv 5)) (de_call tk c__law_take hr (by decide) (da_cons (de_var (pv 0)) (da_cons (de_bor (pv 1)) (da_cons (de_callB p_len call_lenU b_len PySem.boot_len (da_cons (de_bor (pv 5)) da_nil)) da_nil))))) nd)
    (dss_one (ds_ret (de_bin p_add op_addU (de_bin p_add op_addU (de_sl p_sl sl_U (de_bor (pv 2)) do_none (do_some (de_var (pv 8)))) (de_bor (pv 9))) (de_sl p_sl sl_U (de_bor (pv 2)) (do_some (de_var (pv 8))) (do_some de_int)))))))))))))))
theorem d__law_words_line {P : Program} {w : World} {K : PySem.W.Frag} {mg : Str → Option Value} {base : Heap}  {f : Addr} {fd : FuncData} (Fu : Fn K "_law_words_line" s__law_words_line f fd) (hm : mg "_law_words_line" = some (.ref f)) : Ca P w K mg base "_law_words_line" 1 fs__law_words_line := by
  have nd : (["words", "kind", "sign"] : List Str).Nodup := by decide +kernel
  refine ca_mk (N := ["words", "kind", "sign"]) (ps := ["words", "kind", "sign"]) (k := 0) (fs := fs__law_words_line) (u := w__law_words_line) Fu ⟨rfl, rfl, rfl, nd, rfl, by decide +kernel, by decide +kernel⟩ l__law_words_line m__law_words_line hm (Fu.bindsN fun _ _ _ _ _ _ us hl => match us, hl with | [_, _, _], _ => rfl) (fun cdv A outer s H E hr => ?_)
  exact (dss_cons (ds_if (dt_cmp p_eq (op_eqU hr.units) (de_bor (pv 1)) de_int) (dss_one (ds_ret (de_bin p_add op_addU (de_bin p_add op_addU (de_bin p_add op_addU (de_bin p_add op_addU de_str (de_ix p_ix ix_seq (de_bor (pv 0)) de_int)) de_str) (de_ix p_ix ix_seq (de_bor (pv 0)) de_int)) de_str))) dss_nil)
    (dss_cons (ds_if (dt_cmp p_eq (op_eqU hr.units) (de_bor (pv 1)) de_int) (dss_one (ds_ret (de_bin p_add op_addU (de_bin p_add op_addU (de_bin p_add op_addU (de_bin p_add op_addU de_str (de_ix p_ix ix_seq (de_bor (pv 0)) de_int)) de_str) (de_ix p_ix ix_seq (de_bor (pv 0)) de_int)) de_str))) dss_nil)
    (dss_cons (ds_if (dt_cmp p_eq (op_eqU hr.units) (de_bor (pv 1)) de_int) (dss_one (ds_ret (de_bin p_add op_addU (de_bin p_add op_addU (de_bin p_add op_addU de_str (de_ix p_ix ix_seq (de_bor (pv 0)) de_int)) de_str) (de_ix p_ix ix_seq (de_bor (pv 0)) de_int)))) dss_nil)
    (dss_cons (ds_if (dt_cmp p_eq (op_eqU hr.units) (de_bor (pv 1)) de_int) (dss_one (ds_ret (de_bin p_add op_addU (de_ix p_ix ix_seq (de_lst (da_cons de_str (da_cons de_str da_nil))) (de_bin (p_int (C := fun _ j => 0 < j) (g := (· % ·))) op_mod (de_bor (pv 2)) de_int)) (de_ix p_ix ix_seq (de_bor (pv 0)) de_int)))) dss_nil)
    (dss_one (ds_ret (de_bin p_add op_addU (de_bin p_add op_addU (de_bin p_add op_addU (de_bin p_add op_addU (de_bin p_add op_addU (de_ix p_ix ix_seq (de_bor (pv 0)) de_int) de_str) (de_ix p_ix ix_seq (de_lst (da_cons de_str (da_cons de_str (da_cons de_str (da_cons de_str (da_cons de_str da_nil)))))) (de_var (pv 2)))) de_str) (de_ix p_ix ix_seq (de_bor (pv 0)) de_int)) de_str)))))))
theorem d_law {P : Program} {w : World} {K : PySem.W.Frag} {mg : Str → Option Value} {base : Heap} (b_len : mg "len" = none) (b_list : mg "list" = none) (c__law_numbers : Ca P w K mg base "_law_numbers" 1 fs__law_numbers) (c__law_take : Ca P w K mg base "_law_take" 2 fs__law_take) (c__law_long_word : Ca P w K mg base "_law_long_word" 4 fs__law_long_word) (c__law_words_line : Ca P w K mg base "_law_words_line" 1 fs__law_words_line) (c__law_so : Ca P w K mg base "_law_so" 13 fs__law_so) (c_is_text : Ca P w K mg base "is_text" 10 fs_is_text) (c_statements : Ca P w K mg base "statements" 12 fs_statements) (c__law_wrong_word : Ca P w K mg base "_law_wrong_word" 3 fs__law_wrong_word) (c__law_text_fault : Ca P w K mg base "_law_text_fault" 13 fs__law_text_fault) {f : Addr} {fd : FuncData} (Fu : Fn K "law" s_law f fd) (hm : mg "law" = some (.ref f)) : FnOk P w K mg base (L2.CX P w) 14 f fd ["script"] (spOf K mg fs_law) := by
  have nd : (["script", "row", "spot", "kind", "sign", "kinds", "signs", "words", "one", "word", "line", "tail", "due", "at", "bad", "text"] : List Str).Nodup := by decide +kernel
  refine fn_dlD (N := ["script", "row", "spot", "kind", "sign", "kinds", "signs", "words", "one", "word", "line", "tail", "due", "at", "bad", "text"]) (ps := ["script"]) (k := 13) (fs := fs_law) (u := w_law) Fu ⟨rfl, rfl, rfl, nd, rfl, by decide +kernel, by decide +kernel⟩ l_law (fun cdv A outer s H E hr => ?_) m_law
  have tk : Takes (cxOf (L2.CX P w) P w K mg base ["script", "row", "spot", "kind", "sign", "kinds", "signs", "words", "one", "word", "line", "tail", "due", "at", "bad", "text"] "law" (defScope s_law) f cdv A outer s H E) (WD E) := takes_of rfl rfl rfl rfl
  rw [e_law, e_law_20, e_law_19, e_law_18, e_law_17, e_law_16, e_law_15, e_law_14, e_law_13, e_law_12, e_law_11, e_law_10, e_law_9, e_law_8, e_law_7, e_law_6, e_law_5, e_law_4, e_law_3, e_law_2, e_law_1]
  exact (dss_cons (ds_set (de_call tk c__law_numbers hr (by decide) (da_cons (de_var (pv 0)) da_nil)) nd)
    (dss_cons (ds_set (de_lst (da_cons de_int da_nil)) nd)
    (dss_cons (ds_set (de_call tk c__law_take hr (by decide) (da_cons (de_var (pv 1)) (da_cons (de_bor (pv 2)) (da_cons de_int da_nil)))) nd)
    (dss_cons (ds_set (de_call tk c__law_take hr (by decide) (da_cons (de_var (pv 1)) (da_cons (de_bor (pv 2)) (da_cons de_int da_nil)))) nd)
    (dss_cons (ds_set (de_ix p_ix ix_seq (de_lst (da_cons (de_tup (da_cons de_str (da_cons de_str da_nil))) (da_cons (de_tup (da_cons de_str (da_cons de_str da_nil))) (da_cons (de_tup (da_cons de_str (da_cons de_str da_nil))) (da_cons (de_tup (da_cons de_str (da_cons de_str da_nil))) (da_cons (de_tup (da_cons de_str (da_cons de_str da_nil))) da_nil)))))) (de_var (pv 3))) nd)
    (dss_cons (ds_set (de_disp (pps_cons pe_str pe_str (pps_cons pe_str pe_str (pps_cons pe_str pe_str (pps_cons pe_str pe_str (pps_cons pe_str pe_str pps_nil))))) (by decide +kernel) rfl rfl (by intro z; cases z) (by decide) (by decide)) nd)
    (dss_cons (ds_set (de_lst da_nil) nd)
    (dss_cons (ds_for (passes_of rfl) rfl (di_any (de_var (pv 5))) (pg_n nd) (dss_cons (ds_set (de_call tk c__law_long_word hr (by decide) (da_cons (de_var (pv 1)) (da_cons (de_bor (pv 2)) (da_cons (de_dget (hu_of hr) (de_bor (pv 6)) (de_var (pv 8))) da_nil)))) nd)
    (dss_one (ds_append (pe_bm PySem.F.plainAttrs_list PySem.F.slot_list_append PySem.F.type_list_append mt_append (pv 7) (pa_cons (DE.pe (de_bin p_add op_addU (de_sl p_sl sl_U (de_bor (pv 9)) do_none (do_some (de_bin (p_int (C := fun _ _ => True) (g := (· - ·))) op_subC (de_callB p_len call_lenU b_len PySem.boot_len (da_cons (de_bor (pv 9)) da_nil)) de_int))) de_str)) pa_nil))))))
    (dss_cons (ds_set (de_call tk c__law_words_line hr (by decide) (da_cons (de_var (pv 7)) (da_cons (de_var (pv 3)) (da_cons (de_var (pv 4)) da_nil)))) nd)
    (dss_cons (ds_set (de_if (dt_cmp p_in op_inU (de_bor (pv 3)) (de_lst (da_cons de_int (da_cons de_int da_nil)))) de_str de_str) nd)
    (dss_cons (ds_if (dt_not (dt_val (de_call tk c__law_so hr (by decide) (da_cons (de_call tk c_is_text hr (by decide) (da_cons (de_bin p_add op_addU (de_bin p_add op_addU (de_bin p_add op_addU de_str (de_bor (pv 10))) de_str) (de_bor (pv 11))) da_nil)) (da_cons de_bl da_nil))))) (dss_one (ds_ret de_bl)) dss_nil)
    (dss_cons (ds_if (dt_cmp p_eq (op_eqU hr.units) (de_bor (pv 3)) de_int) (dss_cons (ds_set (de_tup (da_cons de_int (da_cons (de_ix p_ix ix_seq (de_bor (pv 7)) de_int) (da_cons (de_ix p_ix ix_seq (de_lst (da_cons de_str (da_cons de_str (da_cons de_str (da_cons de_str (da_cons de_str da_nil)))))) (de_var (pv 4))) (da_cons (de_tup (da_cons (de_ix p_ix ix_seq (de_bor (pv 7)) de_int) (da_cons de_str da_nil))) (da_cons (de_tup da_nil) da_nil)))))) nd)
    (dss_one (ds_if (dt_not (dt_val (de_call tk c__law_so hr (by decide) (da_cons (de_ix p_ix ix_seq (de_call tk c_statements hr (by decide) (da_cons (de_bin p_add op_addU (de_bin p_add op_addU de_str (de_bor (pv 10))) de_str) da_nil)) de_int) (da_cons (de_var (pv 12)) da_nil))))) (dss_one (ds_ret de_bl)) dss_nil))) dss_nil)
    (dss_cons (ds_set (de_call tk c__law_take hr (by decide) (da_cons (de_var (pv 1)) (da_cons (de_bor (pv 2)) (da_cons (de_if (dt_cmp p_eq (op_eqU hr.units) (de_bor (pv 3)) de_int) de_int de_int) da_nil)))) nd)
    (dss_cons (ds_set (de_callTy p_toLst call_list_of b_list (by decide +kernel) (da_cons (de_bor (pv 7)) da_nil)) nd)
    (dss_cons (ds_setIx (pv 14) (de_call tk c__law_wrong_word hr (by decide) (da_cons (de_var (pv 1)) (da_cons (de_bor (pv 2)) (da_cons (de_ix p_ix ix_seq (de_bor (pv 7)) (de_var (pv 13))) (da_cons (de_ix p_ix ix_seq (de_bor (pv 5)) (de_var (pv 13))) da_nil))))) (de_var (pv 13)))
    (dss_cons (ds_set (de_bin p_add op_addU (de_bin p_add op_addU (de_bin p_add op_addU de_str (de_call tk c__law_words_line hr (by decide) (da_cons (de_var (pv 14)) (da_cons (de_var (pv 3)) (da_cons (de_var (pv 4)) da_nil))))) de_str) (de_bor (pv 11))) nd)
    (dss_cons (ds_if (dt_cmp p_ne (op_neU hr.units) (de_bor (pv 11)) de_str) (dss_one (ds_set (de_sl p_sl sl_U (de_bor (pv 15)) do_none (do_some (de_bin (p_int (C := fun _ _ => True) (g := (· - ·))) op_subC (de_callB p_len call_lenU b_len PySem.boot_len (da_cons (de_bor (pv 15)) da_nil)) de_int))) nd)) dss_nil)
    (dss_one (ds_ret (de_and (de_call tk c__law_so hr (by decide) (da_cons (de_call tk c_is_text hr (by decide) (da_cons (de_var (pv 15)) da_nil)) (da_cons de_bl da_nil))) (de_one (de_cmp p_eq (op_eqU hr.units) (de_call tk c__law_text_fault hr (by decide) (da_cons de_int (da_cons (de_var (pv 15)) da_nil))) (de_tup (da_cons de_str (da_cons de_int (da_cons de_int da_nil))))))))))))))))))))))))))
theorem factsL {P : Program} {w : World} {K : PySem.W.Frag} {h : Heap} {mg : Str → Option Value} {f : Addr} (X : K.In h) (G : h.Ns mainGlobals mg) (hfa : mg ("law" : Str) = some (.ref f)) (c0 : SaysK tsL esL csL faL fnL w K) :
    ∃ fd : FuncData, (∀ (s : Shared) (v : Value), BindsTo s fd ⟨[v], []⟩ [("script", v)]) ∧ ∀ base : Heap, K.In base → base.Ns mainGlobals mg → FnOk P w K mg base (L2.CX P w) 14 f fd ["script"] (spOf K mg fs_law) := by
  have c0k := c0
  have c0 := c0.both.2
  have c00 := c0
  have c0 := c0.two.2
  have c := c0.d
  obtain ⟨e_is_sequence, F_is_sequence⟩ := c.def_ 0 (d := t_is_sequence) rfl
  obtain ⟨e_is_letter, F_is_letter⟩ := c.def_ 1 (d := t_is_letter) rfl
  obtain ⟨e_has_signs, F_has_signs⟩ := c.def_ 2 (d := t_has_signs) rfl
  obtain ⟨e_is_word, F_is_word⟩ := c.def_ 3 (d := t_is_word) rfl
  obtain ⟨e_is_plain, F_is_plain⟩ := c.def_ 4 (d := t_is_plain) rfl
  obtain ⟨e_is_item_word, F_is_item_word⟩ := c.def_ 5 (d := t_is_item_word) rfl
  obtain ⟨e_is_key, F_is_key⟩ := c.def_ 6 (d := t_is_key) rfl
  obtain ⟨e_is_section, F_is_section⟩ := c.def_ 7 (d := t_is_section) rfl
  obtain ⟨e_name_of, F_name_of⟩ := c.def_ 8 (d := t_name_of) rfl
  obtain ⟨e_section_body, F_section_body⟩ := c.def_ 9 (d := t_section_body) rfl
  obtain ⟨e_when_body, F_when_body⟩ := c.def_ 10 (d := t_when_body) rfl
  obtain ⟨e_statement_body, F_statement_body⟩ := c.def_ 11 (d := t_statement_body) rfl
  obtain ⟨e_told_by, F_told_by⟩ := c.def_ 12 (d := t_told_by) rfl
  obtain ⟨e_body_of, F_body_of⟩ := c.def_ 13 (d := t_body_of) rfl
  obtain ⟨e_split_lines, F_split_lines⟩ := c.def_ 14 (d := t_split_lines) rfl
  obtain ⟨e_bodies_of, F_bodies_of⟩ := c.def_ 15 (d := t_bodies_of) rfl
  obtain ⟨e_first_bad, F_first_bad⟩ := c.def_ 16 (d := t_first_bad) rfl
  obtain ⟨e_statements_in, F_statements_in⟩ := c.def_ 17 (d := t_statements_in) rfl
  obtain ⟨e_check_stack, F_check_stack⟩ := c.def_ 18 (d := t_check_stack) rfl
  obtain ⟨e_check_text, F_check_text⟩ := c.def_ 19 (d := t_check_text) rfl
  obtain ⟨e_is_text, F_is_text⟩ := c.def_ 20 (d := t_is_text) rfl
  obtain ⟨e_lines_of, F_lines_of⟩ := c.def_ 21 (d := t_lines_of) rfl
  obtain ⟨e_joined, F_joined⟩ := c.def_ 22 (d := t_joined) rfl
  obtain ⟨e_statements, F_statements⟩ := c.def_ 23 (d := t_statements) rfl
  obtain ⟨e__law_so, F__law_so⟩ := c.def_ 24 (d := t__law_so) rfl
  obtain ⟨e__law_numbers, F__law_numbers⟩ := c.def_ 25 (d := t__law_numbers) rfl
  obtain ⟨e__law_draw, F__law_draw⟩ := c.def_ 26 (d := t__law_draw) rfl
  obtain ⟨e__law_take, F__law_take⟩ := c.def_ 27 (d := t__law_take) rfl
  obtain ⟨e__law_letters, F__law_letters⟩ := c.def_ 28 (d := t__law_letters) rfl
  obtain ⟨e__law_text_fault, F__law_text_fault⟩ := c.def_ 29 (d := t__law_text_fault) rfl
  obtain ⟨e__law_long_word, F__law_long_word⟩ := c.def_ 30 (d := t__law_long_word) rfl
  obtain ⟨e__law_wrong_word, F__law_wrong_word⟩ := c.def_ 31 (d := t__law_wrong_word) rfl
  obtain ⟨e__law_words_line, F__law_words_line⟩ := c.def_ 32 (d := t__law_words_line) rfl
  obtain ⟨e_law, F_law⟩ := c.def_ 33 (d := t_law) rfl
  have h_is_sequence := He.glo_ok X G (c.fact 0 (f := .glo "is_sequence") rfl)
  have h_is_letter := He.glo_ok X G (c.fact 1 (f := .glo "is_letter") rfl)
  have h_has_signs := He.glo_ok X G (c.fact 2 (f := .glo "has_signs") rfl)
  have h_is_word := He.glo_ok X G (c.fact 3 (f := .glo "is_word") rfl)
  have h_is_plain := He.glo_ok X G (c.fact 4 (f := .glo "is_plain") rfl)
  have h_is_item_word := He.glo_ok X G (c.fact 5 (f := .glo "is_item_word") rfl)
  have h_is_key := He.glo_ok X G (c.fact 6 (f := .glo "is_key") rfl)
  have h_is_section := He.glo_ok X G (c.fact 7 (f := .glo "is_section") rfl)
  have h_name_of := He.glo_ok X G (c.fact 8 (f := .glo "name_of") rfl)
  have h_section_body := He.glo_ok X G (c.fact 9 (f := .glo "section_body") rfl)
  have h_when_body := He.glo_ok X G (c.fact 10 (f := .glo "when_body") rfl)
  have h_statement_body := He.glo_ok X G (c.fact 11 (f := .glo "statement_body") rfl)
  have h_told_by := He.glo_ok X G (c.fact 12 (f := .glo "told_by") rfl)
  have h_body_of := He.glo_ok X G (c.fact 13 (f := .glo "body_of") rfl)
  have h_split_lines := He.glo_ok X G (c.fact 14 (f := .glo "split_lines") rfl)
  have h_bodies_of := He.glo_ok X G (c.fact 15 (f := .glo "bodies_of") rfl)
  have h_first_bad := He.glo_ok X G (c.fact 16 (f := .glo "first_bad") rfl)
  have h_statements_in := He.glo_ok X G (c.fact 17 (f := .glo "statements_in") rfl)
  have h_check_stack := He.glo_ok X G (c.fact 18 (f := .glo "check_stack") rfl)
  have h_check_text := He.glo_ok X G (c.fact 19 (f := .glo "check_text") rfl)
  have h_is_text := He.glo_ok X G (c.fact 20 (f := .glo "is_text") rfl)
  have h_lines_of := He.glo_ok X G (c.fact 21 (f := .glo "lines_of") rfl)
  have h_joined := He.glo_ok X G (c.fact 22 (f := .glo "joined") rfl)
  have h_statements := He.glo_ok X G (c.fact 23 (f := .glo "statements") rfl)
  have h__law_so := He.glo_ok X G (c.fact 24 (f := .glo "_law_so") rfl)
  have h__law_numbers := He.glo_ok X G (c.fact 25 (f := .glo "_law_numbers") rfl)
  have h__law_draw := He.glo_ok X G (c.fact 26 (f := .glo "_law_draw") rfl)
  have h__law_take := He.glo_ok X G (c.fact 27 (f := .glo "_law_take") rfl)
  have h__law_letters := He.glo_ok X G (c.fact 28 (f := .glo "_law_letters") rfl)
  have h__law_text_fault := He.glo_ok X G (c.fact 29 (f := .glo "_law_text_fault") rfl)
  have h__law_long_word := He.glo_ok X G (c.fact 30 (f := .glo "_law_long_word") rfl)
  have h__law_wrong_word := He.glo_ok X G (c.fact 31 (f := .glo "_law_wrong_word") rfl)
  have h__law_words_line := He.glo_ok X G (c.fact 32 (f := .glo "_law_words_line") rfl)
  have h_law := He.glo_ok X G (c.fact 33 (f := .glo "law") rfl)
  have h_BadValue := He.glo_ok X G (c.fact 34 (f := .glo "BadValue") rfl)
  have h_BadLine := He.glo_ok X G (c.fact 35 (f := .glo "BadLine") rfl)
  have h_TooMany := He.glo_ok X G (c.fact 36 (f := .glo "TooMany") rfl)
  have b_isinstance : mg "isinstance" = none := He.free_ok X G (c.fact 37 (f := .free "isinstance") rfl)
  have b_list : mg "list" = none := He.free_ok X G (c.fact 38 (f := .free "list") rfl)
  have b_tuple : mg "tuple" = none := He.free_ok X G (c.fact 39 (f := .free "tuple") rfl)
  have b_str : mg "str" = none := He.free_ok X G (c.fact 40 (f := .free "str") rfl)
  have b_len : mg "len" = none := He.free_ok X G (c.fact 41 (f := .free "len") rfl)
  have b_all : mg "all" = none := He.free_ok X G (c.fact 42 (f := .free "all") rfl)
  have b_set : mg "set" = none := He.free_ok X G (c.fact 43 (f := .free "set") rfl)
  have b_enumerate : mg "enumerate" = none := He.free_ok X G (c.fact 44 (f := .free "enumerate") rfl)
  have b_min : mg "min" = none := He.free_ok X G (c.fact 45 (f := .free "min") rfl)
  have b_sum : mg "sum" = none := He.free_ok X G (c.fact 46 (f := .free "sum") rfl)
  have b_range : mg "range" = none := He.free_ok X G (c.fact 47 (f := .free "range") rfl)
  have b_bool : mg "bool" = none := He.free_ok X G (c.fact 48 (f := .free "bool") rfl)
  have b_int : mg "int" = none := He.free_ok X G (c.fact 49 (f := .free "int") rfl)
  have h_WORDS := He.glo_ok X G (c.fact 50 (f := .glo "WORDS") rfl)
  obtain ⟨ei_BadValue, FI_BadValue⟩ := c.def_ 34 (d := ti_BadValue) rfl
  have TT_BadValue := c00.err 0 (x := "BadValue") (fs := ["at"]) rfl
  have EC_BadValue : DX.ErrC K (He.ga K "BadValue") ["at"] := DX.errC_at TT_BadValue FI_BadValue
  have er_BadValue : Er K mg "BadValue" ["at"] := ⟨_, h_BadValue, EC_BadValue⟩
  obtain ⟨ei_BadLine, FI_BadLine⟩ := c.def_ 35 (d := ti_BadLine) rfl
  have TT_BadLine := c00.err 1 (x := "BadLine") (fs := ["layer", "at"]) rfl
  have EC_BadLine : DX.ErrC K (He.ga K "BadLine") ["layer", "at"] := DX.errC_layer_at TT_BadLine FI_BadLine
  have er_BadLine : Er K mg "BadLine" ["layer", "at"] := ⟨_, h_BadLine, EC_BadLine⟩
  obtain ⟨ei_TooMany, FI_TooMany⟩ := c.def_ 36 (d := ti_TooMany) rfl
  have TT_TooMany := c00.err 2 (x := "TooMany") (fs := ["word"]) rfl
  have EC_TooMany : DX.ErrC K (He.ga K "TooMany") ["word"] := DX.errC_word TT_TooMany FI_TooMany
  have er_TooMany : Er K mg "TooMany" ["word"] := ⟨_, h_TooMany, EC_TooMany⟩
  have ct_BadValue : Ct K mg "BadValue" ["at"] [("BadValue", true), ("BadLine", false), ("TooMany", false)] := ⟨_, h_BadValue, EC_BadValue, cat_of (by
    intro p hp
    simp only [List.mem_cons, List.not_mem_nil, or_false] at hp
    rcases hp with rfl | rfl | rfl
    · exact ⟨_, h_BadValue, exm_ok (c.fact 51 (f := .exm "BadValue" "BadValue" true) rfl), fun z => by first | rfl | cases z⟩
    · exact ⟨_, h_BadLine, exm_ok (c.fact 52 (f := .exm "BadLine" "BadValue" false) rfl), fun z => by first | rfl | cases z⟩
    · exact ⟨_, h_TooMany, exm_ok (c.fact 53 (f := .exm "TooMany" "BadValue" false) rfl), fun z => by first | rfl | cases z⟩
    )⟩
  have ct_BadLine : Ct K mg "BadLine" ["layer", "at"] [("BadValue", false), ("BadLine", true), ("TooMany", false)] := ⟨_, h_BadLine, EC_BadLine, cat_of (by
    intro p hp
    simp only [List.mem_cons, List.not_mem_nil, or_false] at hp
    rcases hp with rfl | rfl | rfl
    · exact ⟨_, h_BadValue, exm_ok (c.fact 54 (f := .exm "BadValue" "BadLine" false) rfl), fun z => by first | rfl | cases z⟩
    · exact ⟨_, h_BadLine, exm_ok (c.fact 55 (f := .exm "BadLine" "BadLine" true) rfl), fun z => by first | rfl | cases z⟩
    · exact ⟨_, h_TooMany, exm_ok (c.fact 56 (f := .exm "TooMany" "BadLine" false) rfl), fun z => by first | rfl | cases z⟩
    )⟩
  have ct_TooMany : Ct K mg "TooMany" ["word"] [("BadValue", false), ("BadLine", false), ("TooMany", true)] := ⟨_, h_TooMany, EC_TooMany, cat_of (by
    intro p hp
    simp only [List.mem_cons, List.not_mem_nil, or_false] at hp
    rcases hp with rfl | rfl | rfl
    · exact ⟨_, h_BadValue, exm_ok (c.fact 57 (f := .exm "BadValue" "TooMany" false) rfl), fun z => by first | rfl | cases z⟩
    · exact ⟨_, h_BadLine, exm_ok (c.fact 58 (f := .exm "BadLine" "TooMany" false) rfl), fun z => by first | rfl | cases z⟩
    · exact ⟨_, h_TooMany, exm_ok (c.fact 59 (f := .exm "TooMany" "TooMany" true) rfl), fun z => by first | rfl | cases z⟩
    )⟩
  have gd_WORDS : Gd K w mg "WORDS" [("=", (PyData.str "set")), ("+=", (PyData.str "append")), ("^=", (PyData.str "prepend")), ("-=", (PyData.str "drop")), ("?=", (PyData.str "default"))] := c0k.tab 0 h_WORDS rfl
  have g_MOST_SIGNS : Gc K mg "MOST_SIGNS" (PyData.int 40) := gcB_ok X G (c0.cst 0 rfl)
  have g_RESERVED : Gc K mg "RESERVED" (PyData.tuple [(PyData.str "unset"), (PyData.str "lock"), (PyData.str "when"), (PyData.str "end")]) := gcB_ok X G (c0.cst 1 rfl)
  have g_MOST_WORDS : Gc K mg "MOST_WORDS" (PyData.int 4) := gcB_ok X G (c0.cst 2 rfl)
  have g_MOST_WHENS : Gc K mg "MOST_WHENS" (PyData.int 20) := gcB_ok X G (c0.cst 3 rfl)
  have g_MOST_LAYERS : Gc K mg "MOST_LAYERS" (PyData.int 40) := gcB_ok X G (c0.cst 4 rfl)
  have g_MOST_LINES : Gc K mg "MOST_LINES" (PyData.int 2000) := gcB_ok X G (c0.cst 5 rfl)
  have e := hfa.symm.trans h_law
  cases e
  have b := FunD.bindsA (ps := ["script"]) F_law fun _ _ _ _ _ _ us hl => match us, hl with | [_], _ => rfl
  refine ⟨e_law, fun s v => b s [v] rfl, fun base _ _ => ?_⟩
  have c_is_sequence := d_is_sequence (P := P) (w := w) (base := base) b_isinstance b_list b_tuple F_is_sequence h_is_sequence
  have c_is_letter := d_is_letter (P := P) (w := w) (base := base)  F_is_letter h_is_letter
  have c_has_signs := d_has_signs (P := P) (w := w) (base := base) b_isinstance b_str b_len b_all g_MOST_SIGNS c_is_letter F_has_signs h_has_signs
  have c_is_word := d_is_word (P := P) (w := w) (base := base) c_has_signs F_is_word h_is_word
  have c_is_plain := d_is_plain (P := P) (w := w) (base := base) c_has_signs F_is_plain h_is_plain
  have c_is_item_word := d_is_item_word (P := P) (w := w) (base := base) c_has_signs F_is_item_word h_is_item_word
  have c_is_key := d_is_key (P := P) (w := w) (base := base) g_RESERVED c_is_plain F_is_key h_is_key
  have c_is_section := d_is_section (P := P) (w := w) (base := base) b_len b_all g_MOST_WORDS c_is_plain F_is_section h_is_section
  have c_name_of := d_name_of (P := P) (w := w) (base := base)  F_name_of h_name_of
  have c_section_body := d_section_body (P := P) (w := w) (base := base) b_len c_is_section F_section_body h_section_body
  have c_when_body := d_when_body (P := P) (w := w) (base := base) b_tuple b_all b_len b_set c_is_plain c_is_word F_when_body h_when_body
  have c_statement_body := d_statement_body (P := P) (w := w) (base := base) b_tuple b_all b_len gd_WORDS c_is_key c_is_item_word F_statement_body h_statement_body
  have c_told_by := d_told_by (P := P) (w := w) (base := base) c_section_body c_when_body c_is_key c_statement_body F_told_by h_told_by
  have c_body_of := d_body_of (P := P) (w := w) (base := base) c_told_by F_body_of h_body_of
  have c_split_lines := d_split_lines (P := P) (w := w) (base := base)  F_split_lines h_split_lines
  have c_bodies_of := d_bodies_of (P := P) (w := w) (base := base) c_split_lines c_body_of F_bodies_of h_bodies_of
  have c_first_bad := d_first_bad (P := P) (w := w) (base := base) b_enumerate b_len b_min g_MOST_WHENS c_bodies_of F_first_bad h_first_bad
  have c_statements_in := d_statements_in (P := P) (w := w) (base := base) b_enumerate b_tuple c_bodies_of c_name_of F_statements_in h_statements_in
  have c_check_stack := d_check_stack (P := P) (w := w) (base := base) b_all b_isinstance b_str b_len b_sum b_enumerate g_MOST_LAYERS g_MOST_LINES er_BadValue er_TooMany er_BadLine c_is_sequence c_split_lines c_first_bad F_check_stack h_check_stack
  have c_check_text := d_check_text (P := P) (w := w) (base := base) b_isinstance b_str er_BadValue c_check_stack F_check_text h_check_text
  have c_is_text := d_is_text (P := P) (w := w) (base := base) b_isinstance b_str b_len g_MOST_LINES c_split_lines c_first_bad F_is_text h_is_text
  have c_lines_of := d_lines_of (P := P) (w := w) (base := base) b_isinstance b_str b_tuple er_BadValue c_split_lines F_lines_of h_lines_of
  have c_joined := d_joined (P := P) (w := w) (base := base) b_all b_isinstance b_str er_BadValue c_is_sequence F_joined h_joined
  have c_statements := d_statements (P := P) (w := w) (base := base) b_tuple c_check_text c_statements_in F_statements h_statements
  have c__law_so := d__law_so (P := P) (w := w) (base := base) b_isinstance b_tuple b_len b_range b_bool b_int b_str F__law_so h__law_so
  have c__law_numbers := d__law_numbers (P := P) (w := w) (base := base) b_range b_int b_len F__law_numbers h__law_numbers
  have c__law_draw := d__law_draw (P := P) (w := w) (base := base) b_len b_int F__law_draw h__law_draw
  have c__law_take := d__law_take (P := P) (w := w) (base := base) c__law_draw F__law_take h__law_take
  have c__law_letters := d__law_letters (P := P) (w := w) (base := base) b_range b_len c__law_take F__law_letters h__law_letters
  have c__law_text_fault := d__law_text_fault (P := P) (w := w) (base := base) ct_BadValue ct_BadLine ct_TooMany c_lines_of c_joined c_statements F__law_text_fault h__law_text_fault
  have c__law_long_word := d__law_long_word (P := P) (w := w) (base := base) c__law_take c__law_letters F__law_long_word h__law_long_word
  have c__law_wrong_word := d__law_wrong_word (P := P) (w := w) (base := base) b_range b_len c__law_take F__law_wrong_word h__law_wrong_word
  have c__law_words_line := d__law_words_line (P := P) (w := w) (base := base)  F__law_words_line h__law_words_line
  exact d_law b_len b_list c__law_numbers c__law_take c__law_long_word c__law_words_line c__law_so c_is_text c_statements c__law_wrong_word c__law_text_fault F_law h_law
end DL
open PySem PySem.W PySem.Calls PyProof.Rows
set_option maxHeartbeats 0 in
theorem PySem.Challenge.cw_layeredwords_k08_lines_with_one_word_mad_holds : PySem.Challenge.rw_layeredwords_k08_lines_with_one_word_mad.Holds := by
  w_on; o_law
  refine HandSHeadRun.head_any (r := (OpenLaw.row PySem.Challenge.rw_layeredwords_k08_lines_with_one_word_mad)) (q := view (OpenLaw.row PySem.Challenge.rw_layeredwords_k08_lines_with_one_word_mad).prog [50]) (H := DL.hk) (ob := DL.ob) (M := 12000) (loose := DL.namesL) (d := HandSHeadRun.topDef (OpenLaw.row PySem.Challenge.rw_layeredwords_k08_lines_with_one_word_mad).prog 50) (kwd := []) DL.ob_eq (by kernel_rfl) (fun s => by kernel_rfl) DL.run (by kernel_rfl) (by kernel_rfl) (by kernel_rfl) (by rfl) (by first | assumption | decide +kernel) (by decide +kernel) ⟨rfl, rfl, rfl, rfl, rfl, by decide +kernel⟩ ?hw ?hc
  case hw => w_witness2
  case hc =>
    refine DL.walk_ofC (l := PySem.Challenge.rw_layeredwords_k08_lines_with_one_word_mad) (n := 63) (k := 14) (x := "script") (CX := fun w => L2.CX PySem.Challenge.rw_layeredwords_k08_lines_with_one_word_mad.prog w) rfl (by decide) (by kernel_rfl) ⟨rfl, by decide, by decide⟩ ?F (fun w H s e s' z => DL.cx_false w H s e s' z)
    intro w mg fa h Y G hmg0
    obtain ⟨K, KX, c⟩ := Y
    have hmg : mg ("law" : PySem.Str) = some (.ref fa) := by
      have e : (HandSHeadRun.topDef (OpenLaw.row PySem.Challenge.rw_layeredwords_k08_lines_with_one_word_mad).prog 50).name = ("law" : PySem.Str) := by kernel_rfl
      rw [← e]
      exact hmg0
    obtain ⟨fd, hb, hF⟩ := DL.factsL (P := (PySem.Challenge.rw_layeredwords_k08_lines_with_one_word_mad).prog) (w := w) KX G hmg c
    exact ⟨K, fd, _, KX, hb, fun H a ns hl _ hS => DL.law_sp hS (DL.law_true ns hl), hF⟩

