import PyProof.Rows.All
import Wide.All
import OpenK.AllK
import Wide.FinOn
import HandS.ForMost
import HandS.ForExc
import HandS.IsInst
import HandS.Small
import HandS.More
import HandS.TupLen
import HandS.TupAny
import HandS.TupMul
import HandS.TupLe
import KE.DataEq
import KE.SortData
import HandS.FStr
import HandS.SetFor
import HandS.Strs
import HandS.Zip
import PySem.Challenge.RW_playboard_k25_lines
set_option Elab.async false
set_option linter.all false
set_option maxRecDepth 100000
/-! D: data without a heap; what it means that a value of the abstract heap bears a datum; environments. -/
namespace Dl
open PySem L2

inductive D where
  | non | bl (b : Bool) | int (i : Int) | str (x : Str) | ty (n : String) | scr (ns : List Int)
  | lst (xs : List D) | tup (xs : List D) | ktup (xs : List D) | dicK (kvs : List (Key × D)) | dicT (kvs : List (List Key × D)) | ins (c : Str) (fs : List (Str × D))
  deriving Inhabited

abbrev CM := Str → Option Addr

mutual
def Rep (K : PySem.W.Frag) (Γ : CM) (S : Hp) : D → V → Prop
  | .non, v => v = .non
  | .bl b, v => v = .bl b
  | .int i, v => v = .int i
  | .str x, v => v = .str x ∧ x.length ≤ sizeLine
  | .ty n, v => v = .ty n
  | .scr ns, v => ∃ a, v = .ref a ∧ SqL K S a (ns.map V.int) ∧ ns.length ≤ 63
  | .lst ds, v => ∃ a vs, v = .ref a ∧ S a = some (.lst vs) ∧ ds.length ≤ sizeLine ∧ RepL K Γ S ds vs
  | .tup ds, v => ∃ a vs, v = .ref a ∧ S a = some (.tup vs) ∧ ds.length ≤ sizeLine ∧ RepL K Γ S ds vs
  | .ktup ds, v => ∃ a vs, v = .ref a ∧ SqT K S a vs ∧ ds.length ≤ sizeLine ∧ RepL K Γ S ds vs
  | .dicK ds, v => ∃ a vs, v = .ref a ∧ S a = some (.dK vs) ∧ RepK K Γ S ds vs
  | .dicT ds, v => ∃ a vs, v = .ref a ∧ S a = some (.dT vs) ∧ RepT K Γ S ds vs
  | .ins c ds, v => ∃ a C dx vs, v = .ref a ∧ Γ c = some C ∧ S a = some (.ins C dx vs) ∧ RepF K Γ S ds vs
def RepL (K : PySem.W.Frag) (Γ : CM) (S : Hp) : List D → List V → Prop
  | [], vs => vs = []
  | d :: ds, vs => ∃ v ws, vs = v :: ws ∧ Rep K Γ S d v ∧ RepL K Γ S ds ws
def RepK (K : PySem.W.Frag) (Γ : CM) (S : Hp) : List (Key × D) → List (Key × V) → Prop
  | [], vs => vs = []
  | (k, d) :: ds, vs => ∃ v ws, vs = (k, v) :: ws ∧ Rep K Γ S d v ∧ RepK K Γ S ds ws
def RepT (K : PySem.W.Frag) (Γ : CM) (S : Hp) : List (List Key × D) → List (List Key × V) → Prop
  | [], vs => vs = []
  | (k, d) :: ds, vs => ∃ v ws, vs = (k, v) :: ws ∧ Rep K Γ S d v ∧ RepT K Γ S ds ws
def RepF (K : PySem.W.Frag) (Γ : CM) (S : Hp) : List (Str × D) → List (Str × V) → Prop
  | [], vs => vs = []
  | (k, d) :: ds, vs => ∃ v ws, vs = (k, v) :: ws ∧ Rep K Γ S d v ∧ RepF K Γ S ds ws
end

theorem Same.sqt {K : PySem.W.Frag} {H H' : Hp} {a : Addr} {xs : List V} (e : Same H H') (h : SqT K H a xs) : SqT K H' a xs := by
  rcases h with (h | ⟨o, h⟩) | h
  · exact .inl (.inl (e _ _ h))
  · exact .inl (.inr ⟨o, e _ _ h⟩)
  · exact .inr h

section
variable {K : PySem.W.Frag} {Γ : CM} {S S' : Hp}
mutual
theorem Rep.mono (s : Same S S') : ∀ {d : D} {v : V}, Rep K Γ S d v → Rep K Γ S' d v
  | .non, _, h => h
  | .bl _, _, h => h
  | .int _, _, h => h
  | .str _, _, h => h
  | .ty _, _, h => h
  | .scr _, _, ⟨a, e, h, n⟩ => ⟨a, e, s.seq h, n⟩
  | .lst ds, _, ⟨a, vs, e, h, n, r⟩ => ⟨a, vs, e, s _ _ h, n, RepL.mono s r⟩
  | .tup ds, _, ⟨a, vs, e, h, n, r⟩ => ⟨a, vs, e, s _ _ h, n, RepL.mono s r⟩
  | .ktup ds, _, ⟨a, vs, e, h, n, r⟩ => ⟨a, vs, e, Same.sqt s h, n, RepL.mono s r⟩
  | .dicK ds, _, ⟨a, vs, e, h, r⟩ => ⟨a, vs, e, s _ _ h, RepK.mono s r⟩
  | .dicT ds, _, ⟨a, vs, e, h, r⟩ => ⟨a, vs, e, s _ _ h, RepT.mono s r⟩
  | .ins c ds, _, ⟨a, C, dx, vs, e, g, h, r⟩ => ⟨a, C, dx, vs, e, g, s _ _ h, RepF.mono s r⟩
theorem RepL.mono (s : Same S S') : ∀ {ds : List D} {vs : List V}, RepL K Γ S ds vs → RepL K Γ S' ds vs
  | [], _, h => h
  | d :: ds, _, ⟨v, ws, e, r, t⟩ => ⟨v, ws, e, Rep.mono s r, RepL.mono s t⟩
theorem RepK.mono (s : Same S S') : ∀ {ds : List (Key × D)} {vs : List (Key × V)}, RepK K Γ S ds vs → RepK K Γ S' ds vs
  | [], _, h => h
  | (k, d) :: ds, _, ⟨v, ws, e, r, t⟩ => ⟨v, ws, e, Rep.mono s r, RepK.mono s t⟩
theorem RepT.mono (s : Same S S') : ∀ {ds : List (List Key × D)} {vs : List (List Key × V)}, RepT K Γ S ds vs → RepT K Γ S' ds vs
  | [], _, h => h
  | (k, d) :: ds, _, ⟨v, ws, e, r, t⟩ => ⟨v, ws, e, Rep.mono s r, RepT.mono s t⟩
theorem RepF.mono (s : Same S S') : ∀ {ds : List (Str × D)} {vs : List (Str × V)}, RepF K Γ S ds vs → RepF K Γ S' ds vs
  | [], _, h => h
  | (k, d) :: ds, _, ⟨v, ws, e, r, t⟩ => ⟨v, ws, e, Rep.mono s r, RepF.mono s t⟩
end

theorem RepL.length : ∀ {ds : List D} {vs : List V}, RepL K Γ S ds vs → vs.length = ds.length
  | [], _, h => by rw [show _ = [] from h]; rfl
  | d :: ds, _, ⟨v, ws, e, r, t⟩ => by rw [e, List.length_cons, List.length_cons, RepL.length t]
theorem RepL.get : ∀ {ds : List D} {vs : List V} {i : Nat} {d : D}, RepL K Γ S ds vs → ds[i]? = some d → ∃ v, vs[i]? = some v ∧ Rep K Γ S d v
  | [], _, _, _, _, e => by simp at e
  | x :: ds, _, 0, d, ⟨v, ws, e, r, t⟩, q => by
    subst e
    have e : x = d := Option.some.inj q
    exact ⟨v, rfl, e ▸ r⟩
  | x :: ds, _, i + 1, d, ⟨v, ws, e, r, t⟩, q => by
    subst e
    exact RepL.get (i := i) t q
theorem RepL.append : ∀ {ds es : List D} {vs ws : List V}, RepL K Γ S ds vs → RepL K Γ S es ws → RepL K Γ S (ds ++ es) (vs ++ ws)
  | [], _, _, _, h, q => by rw [show _ = [] from h]; exact q
  | d :: ds, _, _, _, ⟨v, ws, e, r, t⟩, q => by
    subst e
    exact ⟨v, _, rfl, r, RepL.append t q⟩
theorem RepL.one {d : D} {v : V} (r : Rep K Γ S d v) : RepL K Γ S [d] [v] := ⟨v, [], rfl, r, rfl⟩
theorem RepL.take : ∀ {ds : List D} {vs : List V} (n : Nat), RepL K Γ S ds vs → RepL K Γ S (ds.take n) (vs.take n)
  | _, _, 0, h => by rw [List.take_zero, List.take_zero]; rfl
  | [], _, _ + 1, h => by rw [show _ = [] from h, List.take_nil, List.take_nil]; rfl
  | d :: ds, _, n + 1, ⟨v, ws, e, r, t⟩ => by
    subst e
    exact ⟨v, _, rfl, r, RepL.take n t⟩
theorem RepL.drop : ∀ {ds : List D} {vs : List V} (n : Nat), RepL K Γ S ds vs → RepL K Γ S (ds.drop n) (vs.drop n)
  | _, _, 0, h => h
  | [], _, _ + 1, h => by rw [show _ = [] from h, List.drop_nil, List.drop_nil]; rfl
  | d :: ds, _, n + 1, ⟨v, ws, e, r, t⟩ => by
    subst e
    exact RepL.drop n t
theorem RepL.set {d : D} {v : V} (r : Rep K Γ S d v) : ∀ {ds : List D} {vs : List V} (i : Nat), RepL K Γ S ds vs → RepL K Γ S (ds.set i d) (vs.set i v)
  | [], _, _, h => by rw [show _ = [] from h]; rfl
  | x :: ds, _, 0, ⟨w, ws, e, q, t⟩ => by subst e; exact ⟨v, ws, rfl, r, t⟩
  | x :: ds, _, i + 1, ⟨w, ws, e, q, t⟩ => by subst e; exact ⟨w, _, rfl, q, RepL.set r i t⟩
theorem RepL.ints : ∀ (ns : List Int), RepL K Γ S (ns.map D.int) (ns.map V.int)
  | [] => rfl
  | n :: ns => ⟨.int n, _, rfl, rfl, RepL.ints ns⟩
end

/-! ### heaps: S the shared part of H; ahead S H, behind S' H' -/
structure Ext (S H S' H' : Hp) : Prop where
  ss : Same S S'
  hh : Same H H'
  sh : Same S' H'
  fr : ∀ a o, H a = some o → S a = none → S' a = none
theorem Ext.refl {S H : Hp} (s : Same S H) : Ext S H S H := ⟨Same.refl _, Same.refl _, s, fun _ _ _ h => h⟩
theorem Ext.trans {S H S1 H1 S2 H2 : Hp} (a : Ext S H S1 H1) (b : Ext S1 H1 S2 H2) : Ext S H S2 H2 :=
  ⟨a.ss.trans b.ss, a.hh.trans b.hh, b.sh, fun c o h n => b.fr c o (a.hh c o h) (a.fr c o h n)⟩
theorem Same.upd {H : Hp} {p : Addr} {o : HO} (h : H p = none) : Same H (upd H p o) := fun b x e => by
  rw [upd_ne (ne_of_none e h)]
  exact e
theorem Same.none {S H : Hp} (s : Same S H) {p : Addr} (h : H p = none) : S p = none := s.free h
/-- a new shared object -/
theorem Ext.shared {S H : Hp} (s : Same S H) {p : Addr} (h : H p = none) (o : HO) : Ext S H (upd S p o) (upd H p o) :=
  ⟨Same.upd (Same.none s h), Same.upd h, fun b x e => by
    by_cases q : b = p
    · subst q; rw [upd_same] at e ⊢; exact e
    · rw [upd_ne q] at e ⊢; exact s b x e, fun b x e n => by
    rw [upd_ne (ne_of_none e h)]
    exact n⟩
/-- a new object that is not shared (yet) -/
theorem Ext.owned {S H : Hp} (s : Same S H) {p : Addr} (h : H p = none) (o : HO) : Ext S H S (upd H p o) :=
  ⟨Same.refl _, Same.upd h, s.trans (Same.upd h), fun _ _ _ n => n⟩

/-! ### modes: shared; borrowed (stands at the entry, is read); read (an owned one, read); owned -/
inductive Mode where | sh | bo | rd | ow
  deriving DecidableEq

/-- a changeable datum at a, its parts shared -/
def TopAt (K : PySem.W.Frag) (Γ : CM) (S H : Hp) (a : Addr) : D → Prop
  | .lst ds => ∃ vs, H a = some (.lst vs) ∧ ds.length ≤ sizeLine ∧ RepL K Γ S ds vs
  | .dicK ds => ∃ vs, H a = some (.dK vs) ∧ RepK K Γ S ds vs
  | .dicT ds => ∃ vs, H a = some (.dT vs) ∧ RepT K Γ S ds vs
  | _ => False
def RepM (K : PySem.W.Frag) (Γ : CM) (H0 S H : Hp) : Mode → D → V → Prop
  | .sh, d, v => Rep K Γ S d v
  | .bo, d, v => Rep K Γ S d v ∨ ∃ a, v = .ref a ∧ TopAt K Γ S H0 a d
  | .rd, d, v => Rep K Γ S d v ∨ ∃ a, v = .ref a ∧ TopAt K Γ S H a d
  | .ow, d, v => ∃ a, v = .ref a ∧ S a = none ∧ TopAt K Γ S H a d
section
variable {K : PySem.W.Frag} {Γ : CM} {H0 S H S' H' : Hp} {a : Addr} {d : D} {v : V} {m : Mode}
theorem TopAt.mono (s : Same S S') (h : ∀ o, H a = some o → H' a = some o) (t : TopAt K Γ S H a d) : TopAt K Γ S' H' a d := by
  cases d with
  | lst ds => obtain ⟨vs, e, n, r⟩ := t; exact ⟨vs, h _ e, n, r.mono s⟩
  | dicK ds => obtain ⟨vs, e, r⟩ := t; exact ⟨vs, h _ e, r.mono s⟩
  | dicT ds => obtain ⟨vs, e, r⟩ := t; exact ⟨vs, h _ e, r.mono s⟩
  | _ => exact t.elim
theorem TopAt.there (t : TopAt K Γ S H a d) : ∃ o, H a = some o := by
  cases d with
  | lst ds => obtain ⟨vs, e, _⟩ := t; exact ⟨_, e⟩
  | dicK ds => obtain ⟨vs, e, _⟩ := t; exact ⟨_, e⟩
  | dicT ds => obtain ⟨vs, e, _⟩ := t; exact ⟨_, e⟩
  | _ => exact t.elim
theorem RepM.mono (e : Ext S H S' H') (r : RepM K Γ H0 S H m d v) : RepM K Γ H0 S' H' m d v := by
  cases m with
  | sh => exact Rep.mono e.ss r
  | bo =>
    rcases r with r | ⟨a, ev, t⟩
    · exact .inl (Rep.mono e.ss r)
    · exact .inr ⟨a, ev, t.mono e.ss fun _ q => q⟩
  | rd =>
    rcases r with r | ⟨a, ev, t⟩
    · exact .inl (Rep.mono e.ss r)
    · exact .inr ⟨a, ev, t.mono e.ss fun _ q => e.hh _ _ q⟩
  | ow =>
    obtain ⟨a, ev, n, t⟩ := r
    obtain ⟨o, ho⟩ := t.there
    exact ⟨a, ev, e.fr a o ho n, t.mono e.ss fun _ q => e.hh _ _ q⟩
/-- an owned datum at a becomes shared -/
theorem TopAt.share (s : Same S H) (n : S a = none) (t : TopAt K Γ S H a d) : ∃ S', Same S S' ∧ Same S' H ∧ Rep K Γ S' d (.ref a) ∧ ∀ b, b ≠ a → S' b = S b := by
  obtain ⟨o, ho⟩ := t.there
  have s1 : Same S (upd S a o) := Same.upd n
  have s2 : Same (upd S a o) H := fun b x e => by
    by_cases q : b = a
    · subst q; rw [upd_same] at e; exact ho.trans e
    · rw [upd_ne q] at e; exact s b x e
  have e2 : upd S a o a = H a := by rw [upd_same]; exact ho.symm
  cases d with
  | lst ds => obtain ⟨vs, e, l, r⟩ := t; exact ⟨_, s1, s2, ⟨a, vs, rfl, e2.trans e, l, r.mono s1⟩, fun b q => upd_ne q⟩
  | dicK ds => obtain ⟨vs, e, r⟩ := t; exact ⟨_, s1, s2, ⟨a, vs, rfl, e2.trans e, r.mono s1⟩, fun b q => upd_ne q⟩
  | dicT ds => obtain ⟨vs, e, r⟩ := t; exact ⟨_, s1, s2, ⟨a, vs, rfl, e2.trans e, r.mono s1⟩, fun b q => upd_ne q⟩
  | _ => exact t.elim
/-- whatever the mode is, it may be read -/
theorem RepM.rd (hs : Same H0 H) (r : RepM K Γ H0 S H m d v) : RepM K Γ H0 S H .rd d v := by
  cases m with
  | sh => exact .inl r
  | bo =>
    rcases r with r | ⟨a, ev, t⟩
    · exact .inl r
    · exact .inr ⟨a, ev, t.mono (Same.refl _) fun _ q => hs _ _ q⟩
  | rd => exact r
  | ow => obtain ⟨a, ev, n, t⟩ := r; exact .inr ⟨a, ev, t⟩
end

/-! ### environments -/
abbrev Env := List (Option D)
abbrev Ev := Env → Option D
def md (M : List Mode) (i : Nat) : Mode := M.getD i .sh
structure Wd (K : PySem.W.Frag) (Γ : CM) (S0 H0 S H : Hp) (σ : St) (M : List Mode) (δ : Env) : Prop where
  ext : Ext S0 H0 S H
  len : σ.length = δ.length
  slot : ∀ i d, δ[i]? = some (some d) → ∃ v, σ[i]? = some (some v) ∧ RepM K Γ H0 S H (md M i) d v
  own : ∀ i d a, δ[i]? = some (some d) → md M i = .ow → σ[i]? = some (some (.ref a)) → H0 a = none
  uniq : ∀ i j di dj a, δ[i]? = some (some di) → δ[j]? = some (some dj) → md M i = .ow → md M j = .ow → σ[i]? = some (some (.ref a)) → σ[j]? = some (some (.ref a)) → i = j
  nord : ∀ i, md M i ≠ .rd
section
variable {K : PySem.W.Frag} {Γ : CM} {S0 H0 S H S' H' : Hp} {σ : St} {M : List Mode} {δ : Env}
theorem Wd.mono (w : Wd K Γ S0 H0 S H σ M δ) (e : Ext S H S' H') : Wd K Γ S0 H0 S' H' σ M δ :=
  ⟨w.ext.trans e, w.len, fun i d h => let ⟨v, q, r⟩ := w.slot i d h; ⟨v, q, r.mono e⟩, w.own, w.uniq, w.nord⟩
theorem Wd.sH (w : Wd K Γ S0 H0 S H σ M δ) : Same S H := w.ext.sh
theorem Wd.h0 (w : Wd K Γ S0 H0 S H σ M δ) : Same H0 H := w.ext.hh
theorem getElem?_set {α : Type} {l : List α} {i j : Nat} {x y : α} (h : (l.set i x)[j]? = some y) : (i = j ∧ x = y ∧ i < l.length) ∨ (i ≠ j ∧ l[j]? = some y) := by
  by_cases q : i = j
  · subst q
    by_cases p : i < l.length
    · rw [List.getElem?_set_self p] at h
      exact .inl ⟨rfl, Option.some.inj h, p⟩
    · rw [List.getElem?_eq_none (by rw [List.length_set]; omega)] at h
      cases h
  · rw [List.getElem?_set_ne q] at h
    exact .inr ⟨q, h⟩
theorem md_set {M : List Mode} {i j : Nat} {m : Mode} (h : i < M.length) : md (M.set i m) j = if i = j then m else md M j := by
  unfold md
  rw [List.getD_eq_getElem?_getD, List.getD_eq_getElem?_getD]
  by_cases q : i = j
  · subst q
    rw [List.getElem?_set_self h, if_pos rfl]
    rfl
  · rw [List.getElem?_set_ne q, if_neg q]
/-- a slot is stored -/
theorem Wd.store {i : Nat} {m : Mode} {d : D} {v : V} (w : Wd K Γ S0 H0 S H σ M δ) (hi : i < M.length) (hm : m = .sh ∨ m = .bo ∨ m = .ow) (r : RepM K Γ H0 S H m d v)
    (f0 : m = .ow → ∀ a, v = .ref a → H0 a = none) (f1 : m = .ow → ∀ a, v = .ref a → ∀ j dj, δ[j]? = some (some dj) → md M j = .ow → σ[j]? ≠ some (some (.ref a))) :
    Wd K Γ S0 H0 S H (σ.set i (some v)) (M.set i m) (δ.set i (some d)) := by
  have key : ∀ j dj, (δ.set i (some d))[j]? = some (some dj) → (i = j ∧ d = dj ∧ i < δ.length) ∨ (i ≠ j ∧ δ[j]? = some (some dj)) := fun j dj h => by
    rcases getElem?_set h with ⟨a, b, c⟩ | h
    · exact .inl ⟨a, Option.some.inj b, c⟩
    · exact .inr h
  refine ⟨w.ext, by rw [List.length_set, List.length_set, w.len], fun j dj h => ?_, fun j dj a h hm2 hs => ?_, fun j k dj dk a h1 h2 m1 m2 s1 s2 => ?_, fun j z => ?_⟩
  · rw [md_set hi]
    rcases key j dj h with ⟨e, e2, l⟩ | ⟨ne, h⟩
    · subst e e2
      rw [if_pos rfl]
      exact ⟨v, List.getElem?_set_self (by rw [w.len]; exact l), r⟩
    · rw [if_neg ne, List.getElem?_set_ne ne]
      exact w.slot j dj h
  · rw [md_set hi] at hm2
    rcases key j dj h with ⟨e, e2, l⟩ | ⟨ne, h⟩
    · subst e e2
      rw [if_pos rfl] at hm2
      rw [List.getElem?_set_self (by rw [w.len]; exact l)] at hs
      exact f0 hm2 a (Option.some.inj (Option.some.inj hs))
    · rw [if_neg ne] at hm2
      rw [List.getElem?_set_ne ne] at hs
      exact w.own j dj a h hm2 hs
  · rw [md_set hi] at m1 m2
    rcases key j dj h1 with ⟨e, e2, l⟩ | ⟨ne, h1⟩
    · subst e e2
      rcases key k dk h2 with ⟨e, e2, l2⟩ | ⟨ne, h2⟩
      · exact e
      · rw [if_pos rfl] at m1
        rw [if_neg ne] at m2
        rw [List.getElem?_set_self (by rw [w.len]; exact l)] at s1
        rw [List.getElem?_set_ne ne] at s2
        exact absurd s2 (f1 m1 a (Option.some.inj (Option.some.inj s1)) k dk h2 m2)
    · rcases key k dk h2 with ⟨e, e2, l2⟩ | ⟨ne2, h2⟩
      · subst e e2
        rw [if_pos rfl] at m2
        rw [if_neg ne] at m1
        rw [List.getElem?_set_self (by rw [w.len]; exact l2)] at s2
        rw [List.getElem?_set_ne ne] at s1
        exact absurd s1 (f1 m2 a (Option.some.inj (Option.some.inj s2)) j dj h1 m1)
      · rw [if_neg ne] at m1
        rw [if_neg ne2] at m2
        rw [List.getElem?_set_ne ne] at s1
        rw [List.getElem?_set_ne ne2] at s2
        exact w.uniq j k dj dk a h1 h2 m1 m2 s1 s2
  · rw [md_set hi] at z
    by_cases q : i = j
    · rw [if_pos q] at z
      rcases hm with e | e | e <;> rw [e] at z <;> cases z
    · rw [if_neg q] at z
      exact w.nord j z
/-- an owned slot becomes shared -/
theorem Wd.freeze {i : Nat} (w : Wd K Γ S0 H0 S H σ M δ) (hi : i < M.length) (hm : md M i = .ow) : ∃ S', Same S S' ∧ Wd K Γ S0 H0 S' H σ (M.set i .sh) δ := by
  have nr : ∀ j, md (M.set i .sh) j ≠ .rd := fun j z => by
    rw [md_set hi] at z
    by_cases q : i = j
    · rw [if_pos q] at z; cases z
    · rw [if_neg q] at z; exact w.nord j z
  have other : ∀ j dj, i ≠ j → δ[j]? = some (some dj) → md (M.set i .sh) j = md M j := fun j dj ne _ => by rw [md_set hi, if_neg ne]
  cases q : δ[i]? with
  | none =>
    refine ⟨S, Same.refl _, w.ext, w.len, fun j dj h => ?_, fun j dj a h m s => ?_, fun j k dj dk a h1 h2 m1 m2 s1 s2 => ?_, nr⟩
    · have ne : i ≠ j := fun e => by subst e; rw [q] at h; cases h
      rw [other j dj ne h]; exact w.slot j dj h
    · have ne : i ≠ j := fun e => by subst e; rw [q] at h; cases h
      rw [other j dj ne h] at m; exact w.own j dj a h m s
    · have ne : i ≠ j := fun e => by subst e; rw [q] at h1; cases h1
      have ne2 : i ≠ k := fun e => by subst e; rw [q] at h2; cases h2
      rw [other j dj ne h1] at m1; rw [other k dk ne2 h2] at m2
      exact w.uniq j k dj dk a h1 h2 m1 m2 s1 s2
  | some od =>
    cases od with
    | none =>
      refine ⟨S, Same.refl _, w.ext, w.len, fun j dj h => ?_, fun j dj a h m s => ?_, fun j k dj dk a h1 h2 m1 m2 s1 s2 => ?_, nr⟩
      · have ne : i ≠ j := fun e => by subst e; rw [q] at h; cases h
        rw [other j dj ne h]; exact w.slot j dj h
      · have ne : i ≠ j := fun e => by subst e; rw [q] at h; cases h
        rw [other j dj ne h] at m; exact w.own j dj a h m s
      · have ne : i ≠ j := fun e => by subst e; rw [q] at h1; cases h1
        have ne2 : i ≠ k := fun e => by subst e; rw [q] at h2; cases h2
        rw [other j dj ne h1] at m1; rw [other k dk ne2 h2] at m2
        exact w.uniq j k dj dk a h1 h2 m1 m2 s1 s2
    | some d =>
      obtain ⟨v, hv, r⟩ := w.slot i d q
      rw [hm] at r
      obtain ⟨a, e, n, t⟩ := r
      subst e
      have h0 := w.own i d a q hm hv
      obtain ⟨S', ss, sh, r, off⟩ := t.share w.sH n
      have ext : Ext S0 H0 S' H := ⟨w.ext.ss.trans ss, w.ext.hh, sh, fun b o hb nb => by
        have nba : b ≠ a := fun e => by rw [e, h0] at hb; cases hb
        rw [off b nba]; exact w.ext.fr b o hb nb⟩
      refine ⟨S', ss, ext, w.len, fun j dj h => ?_, fun j dj b h m s => ?_, fun j k dj dk b h1 h2 m1 m2 s1 s2 => ?_, nr⟩
      · by_cases ne : i = j
        · subst ne
          rw [q] at h
          have e : d = dj := Option.some.inj (Option.some.inj h)
          subst e
          rw [md_set hi, if_pos rfl]
          exact ⟨_, hv, r⟩
        · rw [other j dj ne h]
          obtain ⟨u, hu, ru⟩ := w.slot j dj h
          refine ⟨u, hu, ?_⟩
          cases em : md M j with
          | sh => rw [em] at ru; exact Rep.mono ss ru
          | bo =>
            rw [em] at ru
            rcases ru with ru | ⟨b, eb, tb⟩
            · exact .inl (Rep.mono ss ru)
            · exact .inr ⟨b, eb, tb.mono ss fun _ z => z⟩
          | rd =>
            rw [em] at ru
            rcases ru with ru | ⟨b, eb, tb⟩
            · exact .inl (Rep.mono ss ru)
            · exact .inr ⟨b, eb, tb.mono ss fun _ z => z⟩
          | ow =>
            rw [em] at ru
            obtain ⟨b, eb, nb, tb⟩ := ru
            subst eb
            have nba : b ≠ a := fun e => by
              subst e
              exact ne (w.uniq i j d dj b q h hm em hv hu)
            exact ⟨b, rfl, (off b nba).trans nb, tb.mono ss fun _ z => z⟩
      · have ne : i ≠ j := fun e => by subst e; rw [md_set hi, if_pos rfl] at m; cases m
        rw [other j dj ne h] at m; exact w.own j dj b h m s
      · have ne : i ≠ j := fun e => by subst e; rw [md_set hi, if_pos rfl] at m1; cases m1
        have ne2 : i ≠ k := fun e => by subst e; rw [md_set hi, if_pos rfl] at m2; cases m2
        rw [other j dj ne h1] at m1; rw [other k dk ne2 h2] at m2
        exact w.uniq j k dj dk b h1 h2 m1 m2 s1 s2
/-- an owned slot's datum is changed in its place -/
theorem Wd.write {i : Nat} {a : Addr} {d d' : D} {o : HO} (w : Wd K Γ S0 H0 S H σ M δ) (hm : md M i = .ow) (hd : δ[i]? = some (some d)) (hs : σ[i]? = some (some (.ref a)))
    (t : TopAt K Γ S (upd H a o) a d') : Wd K Γ S0 H0 S (upd H a o) σ M (δ.set i (some d')) := by
  have h0 := w.own i d a hd hm hs
  obtain ⟨v, hv, r⟩ := w.slot i d hd
  rw [hm] at r
  obtain ⟨b, e, n, _⟩ := r
  have e2 : V.ref b = V.ref a := e ▸ Option.some.inj (Option.some.inj (hv.symm.trans hs))
  obtain rfl : b = a := V.ref.inj e2
  have sH : Same S (upd H b o) := fun c x e => by
    have ne : c ≠ b := fun q => by rw [q, n] at e; cases e
    rw [upd_ne ne]; exact w.sH c x e
  have li : i < δ.length := (List.getElem?_eq_some_iff.mp hd).1
  have was : ∀ j dj, (δ.set i (some d'))[j]? = some (some dj) → ∃ dk, δ[j]? = some (some dk) ∧ (i = j → d' = dj) ∧ (i ≠ j → dk = dj) := fun j dj h => by
    rcases getElem?_set h with ⟨e1, e3, _⟩ | ⟨ne, h⟩
    · subst e1; exact ⟨d, hd, fun _ => Option.some.inj e3, fun z => (z rfl).elim⟩
    · exact ⟨dj, h, fun z => (ne z).elim, fun _ => rfl⟩
  refine ⟨⟨w.ext.ss, fun c x e => ?_, sH, w.ext.fr⟩, by rw [List.length_set, w.len], fun j dj h => ?_, fun j dj c h m s => ?_, fun j k dj dk c h1 h2 m1 m2 s1 s2 => ?_, w.nord⟩
  · have ne : c ≠ b := fun q => by rw [q, h0] at e; cases e
    rw [upd_ne ne]; exact w.ext.hh c x e
  · obtain ⟨dk, hk, e1, e3⟩ := was j dj h
    by_cases ne : i = j
    · have e4 := e1 ne
      subst ne e4
      rw [hm]
      exact ⟨_, hs, b, rfl, n, t⟩
    · have e4 := e3 ne
      subst e4
      obtain ⟨u, hu, ru⟩ := w.slot j dk hk
      refine ⟨u, hu, ?_⟩
      cases em : md M j with
      | sh => rw [em] at ru; exact ru
      | bo => rw [em] at ru; exact ru
      | rd =>
        exact (w.nord j em).elim
      | ow =>
        rw [em] at ru
        obtain ⟨c, ec, nc, tc⟩ := ru
        subst ec
        have ncb : c ≠ b := fun e => by
          subst e
          exact ne (w.uniq i j d dk c hd hk hm em hs hu)
        exact ⟨c, rfl, nc, tc.mono (Same.refl _) fun _ z => by rw [upd_ne ncb]; exact z⟩
  · obtain ⟨dk, hk, _⟩ := was j dj h
    exact w.own j dk c hk m s
  · obtain ⟨d1, hk1, _⟩ := was j dj h1
    obtain ⟨d2, hk2, _⟩ := was k dk h2
    exact w.uniq j k d1 d2 c hk1 hk2 m1 m2 s1 s2
end
end Dl
/-! the judgements over data, and the rules for expressions. -/
namespace Dl
open PySem L2

/-! ### data, compared -/
mutual
def D.py : D → PyData
  | .non => .none
  | .bl b => .bool b
  | .int i => .int i
  | .str x => .str x
  | .scr ns => .list (ns.map PyData.int)
  | .lst ds => .list (D.pyL ds)
  | .tup ds => .tuple (D.pyL ds)
  | .ktup ds => .tuple (D.pyL ds)
  | .ty _ => .dict []
  | .dicK _ => .dict []
  | .dicT _ => .dict []
  | .ins _ _ => .dict []
def D.pyL : List D → List PyData
  | [] => []
  | d :: ds => d.py :: D.pyL ds
end
theorem D.pyL_map : ∀ ds : List D, D.pyL ds = ds.map D.py
  | [] => rfl
  | d :: ds => by rw [List.map_cons, ← D.pyL_map ds]; rfl
def D.eqv (a b : D) : Bool := PyData.eqv a.py b.py
def cmpOk (a b : D) : Bool := a.py.plain && b.py.plain && decide (min a.py.depth b.py.depth ≤ 60)
def opEq (a b : D) : Option D := if cmpOk a b then some (.bl (D.eqv a b)) else none
def opNe (a b : D) : Option D := if cmpOk a b then some (.bl (!D.eqv a b)) else none
section
variable {K : PySem.W.Frag} {Γ : CM} {H0 S H : Hp} {d : D} {v : V} {m : Mode}
/-- whatever the mode is: over the whole heap the value bears the datum -/
theorem RepM.full (sh : Same S H) (h0 : Same H0 H) (r : RepM K Γ H0 S H m d v) : Rep K Γ H d v := by
  have top : ∀ {a H1}, Same H1 H → TopAt K Γ S H1 a d → Rep K Γ H d (.ref a) := fun {a H1} s1 t => by
    cases d with
    | lst ds => obtain ⟨vs, e, l, r⟩ := t; exact ⟨a, vs, rfl, s1 _ _ e, l, r.mono sh⟩
    | dicK ds => obtain ⟨vs, e, r⟩ := t; exact ⟨a, vs, rfl, s1 _ _ e, r.mono sh⟩
    | dicT ds => obtain ⟨vs, e, r⟩ := t; exact ⟨a, vs, rfl, s1 _ _ e, r.mono sh⟩
    | _ => exact t.elim
  cases m with
  | sh => exact Rep.mono sh r
  | bo =>
    rcases r with r | ⟨a, ev, t⟩
    · exact Rep.mono sh r
    · subst ev; exact top h0 t
  | rd =>
    rcases r with r | ⟨a, ev, t⟩
    · exact Rep.mono sh r
    · subst ev; exact top (Same.refl _) t
  | ow => obtain ⟨a, ev, n, t⟩ := r; subst ev; exact top (Same.refl _) t
/-- a list, in any mode: its items are shared -/
theorem RepM.lst {ds : List D} (sh : Same S H) (h0 : Same H0 H) (r : RepM K Γ H0 S H m (.lst ds) v) : ∃ a vs, v = .ref a ∧ H a = some (.lst vs) ∧ ds.length ≤ sizeLine ∧ RepL K Γ S ds vs := by
  rcases r.rd h0 with ⟨a, vs, e, h, l, q⟩ | ⟨a, e, vs, h, l, q⟩
  · exact ⟨a, vs, e, sh _ _ h, l, q⟩
  · exact ⟨a, vs, e, h, l, q⟩
theorem RepM.tup {ds : List D} (h0 : Same H0 H) (r : RepM K Γ H0 S H m (.tup ds) v) : ∃ a vs, v = .ref a ∧ S a = some (.tup vs) ∧ ds.length ≤ sizeLine ∧ RepL K Γ S ds vs := by
  rcases r.rd h0 with ⟨a, vs, e, h, l, q⟩ | ⟨a, e, t⟩
  · exact ⟨a, vs, e, h, l, q⟩
  · exact t.elim
theorem RepM.ktup {ds : List D} (h0 : Same H0 H) (r : RepM K Γ H0 S H m (.ktup ds) v) : ∃ a vs, v = .ref a ∧ SqT K S a vs ∧ ds.length ≤ sizeLine ∧ RepL K Γ S ds vs := by
  rcases r.rd h0 with ⟨a, vs, e, h, l, q⟩ | ⟨a, e, t⟩
  · exact ⟨a, vs, e, h, l, q⟩
  · exact t.elim
theorem RepM.dicK {ds : List (Key × D)} (sh : Same S H) (h0 : Same H0 H) (r : RepM K Γ H0 S H m (.dicK ds) v) : ∃ a vs, v = .ref a ∧ H a = some (.dK vs) ∧ RepK K Γ S ds vs := by
  rcases r.rd h0 with ⟨a, vs, e, h, q⟩ | ⟨a, e, vs, h, q⟩
  · exact ⟨a, vs, e, sh _ _ h, q⟩
  · exact ⟨a, vs, e, h, q⟩
theorem RepM.dicT {ds : List (List Key × D)} (sh : Same S H) (h0 : Same H0 H) (r : RepM K Γ H0 S H m (.dicT ds) v) : ∃ a vs, v = .ref a ∧ H a = some (.dT vs) ∧ RepT K Γ S ds vs := by
  rcases r.rd h0 with ⟨a, vs, e, h, q⟩ | ⟨a, e, vs, h, q⟩
  · exact ⟨a, vs, e, sh _ _ h, q⟩
  · exact ⟨a, vs, e, h, q⟩
theorem RepM.ins {c : Str} {ds : List (Str × D)} (h0 : Same H0 H) (r : RepM K Γ H0 S H m (.ins c ds) v) : ∃ a C dx vs, v = .ref a ∧ Γ c = some C ∧ S a = some (.ins C dx vs) ∧ RepF K Γ S ds vs := by
  rcases r.rd h0 with ⟨a, C, dx, vs, e, g, h, q⟩ | ⟨a, e, t⟩
  · exact ⟨a, C, dx, vs, e, g, h, q⟩
  · exact t.elim
/-- what is no list and no dict is shared in any mode -/
theorem RepM.flat (h0 : Same H0 H) (r : RepM K Γ H0 S H m d v) (f : ∀ H1 a, ¬ TopAt K Γ S H1 a d) : Rep K Γ S d v := by
  rcases r.rd h0 with r | ⟨a, e, t⟩
  · exact r
  · exact (f _ _ t).elim
theorem RepM.int {i : Int} (h0 : Same H0 H) (r : RepM K Γ H0 S H m (.int i) v) : v = .int i := r.flat h0 fun _ _ t => t
theorem RepM.bl {i : Bool} (h0 : Same H0 H) (r : RepM K Γ H0 S H m (.bl i) v) : v = .bl i := r.flat h0 fun _ _ t => t
theorem RepM.non (h0 : Same H0 H) (r : RepM K Γ H0 S H m .non v) : v = .non := r.flat h0 fun _ _ t => t
theorem RepM.str {x : Str} (h0 : Same H0 H) (r : RepM K Γ H0 S H m (.str x) v) : v = .str x ∧ x.length ≤ sizeLine := r.flat h0 fun _ _ t => t
theorem RepM.scr {ns : List Int} (h0 : Same H0 H) (r : RepM K Γ H0 S H m (.scr ns) v) : ∃ a, v = .ref a ∧ SqL K S a (ns.map V.int) ∧ ns.length ≤ 63 := r.flat h0 fun _ _ t => t
end

section
variable {X : Cx} {Γ : CM} {pins : List (Addr × Obj)} {σ : St} {H : Hp} {s : Shared}
theorem reads_ints {h : Heap} : ∀ {ns : List Int} {us : List Value}, Vals (ns.map V.int) us → ∃ as, ReadsAll h us (ns.map PyData.int) as
  | [], us, r => by cases r; exact ⟨_, .nil⟩
  | n :: ns, us, r => by
    cases r with
    | cons p q =>
      obtain ⟨t, rfl⟩ := p
      obtain ⟨as, h⟩ := reads_ints q
      exact ⟨_, .cons (.int _ _) h⟩
mutual
theorem Rep.reads (I : Inv X pins σ H s) : ∀ (d : D) (v : V) (u : Value), Rep X.K Γ H d v → RelV v u → d.py.plain = true → ∃ as, Reads s.heap u d.py as
  | .non, _, _, h, r, _ => by cases (show _ = V.non from h); cases r; exact ⟨_, Reads.none⟩
  | .bl b, _, _, h, r, _ => by cases (show _ = V.bl b from h); cases r; exact ⟨_, Reads.bool b⟩
  | .int i, _, _, h, r, _ => by cases (show _ = V.int i from h); obtain ⟨t, rfl⟩ := r; exact ⟨_, Reads.int i t⟩
  | .str x, _, _, h, r, _ => by
    obtain ⟨h, _⟩ := h
    subst h
    obtain ⟨t, rfl⟩ := r
    exact ⟨_, Reads.str x t⟩
  | .scr ns, _, _, h, r, _ => by
    obtain ⟨a, e, hs, _⟩ := h
    subst e
    cases r
    obtain ⟨its, rv, ⟨o, n, ho, hc, _, hd⟩, _⟩ := I.list hs
    obtain ⟨as, hr⟩ := reads_ints (h := s.heap) rv
    exact ⟨_, Reads.list ho hc hd hr⟩
  | .lst ds, _, _, h, r, p => by
    obtain ⟨a, vs, e, hs, _, ha⟩ := h
    subst e
    cases r
    obtain ⟨its, rv, ⟨o, n, ho, hc, _, hd⟩, _⟩ := I.list (SqL.of hs)
    obtain ⟨as, hr⟩ := Rep.readsAll I ds _ its ha rv p
    exact ⟨_, Reads.list ho hc hd hr⟩
  | .tup ds, _, _, h, r, p => by
    obtain ⟨a, vs, e, hs, _, ha⟩ := h
    subst e
    cases r
    obtain ⟨its, rv, ⟨o, ho, hc, n, hd⟩, _⟩ := I.tuple (SqT.of hs)
    obtain ⟨as, hr⟩ := Rep.readsAll I ds _ its ha rv p
    exact ⟨_, Reads.tuple ho hc hd hr⟩
  | .ktup ds, _, _, h, r, p => by
    obtain ⟨a, vs, e, hs, _, ha⟩ := h
    subst e
    cases r
    obtain ⟨its, rv, ⟨o, ho, hc, n, hd⟩, _⟩ := I.tuple hs
    obtain ⟨as, hr⟩ := Rep.readsAll I ds _ its ha rv p
    exact ⟨_, Reads.tuple ho hc hd hr⟩
  | .ty _, _, _, _, _, p => by cases p
  | .dicK _, _, _, _, _, p => by cases p
  | .dicT _, _, _, _, _, p => by cases p
  | .ins _ _, _, _, _, _, p => by cases p
theorem Rep.readsAll (I : Inv X pins σ H s) : ∀ (ds : List D) (vs : List V) (us : List Value), RepL X.K Γ H ds vs → Vals vs us → PyData.plainAll (D.pyL ds) = true → ∃ as, ReadsAll s.heap us (D.pyL ds) as
  | [], _, _, h, r, _ => by cases (show _ = [] from h); cases r; exact ⟨_, .nil⟩
  | d :: ds, _, _, h, r, p => by
    obtain ⟨v, ws, e, h1, h2⟩ := h
    subst e
    have p : (d.py.plain && PyData.plainAll (D.pyL ds)) = true := p
    rw [Bool.and_eq_true] at p
    cases r with
    | cons r1 r2 =>
      obtain ⟨as, q1⟩ := Rep.reads I d _ _ h1 r1 p.1
      obtain ⟨bs, q2⟩ := Rep.readsAll I ds _ _ h2 r2 p.2
      exact ⟨_, ReadsAll.cons q1 q2⟩
end
end

/-! ### judgements -/
section
variable (K : PySem.W.Frag) (Γ : CM)
def Kont (H0 S H : Hp) (m : Mode) (d : D) (Q : VK) : Prop :=
  ∀ v S' H', Ext S H S' H' → RepM K Γ H0 S' H' m d v → (m = .ow → ∀ a, v = .ref a → H a = none) → Q v H'
def SndE (M : List Mode) (t : TE) (f : Ev) (m : Mode) : Prop :=
  ∀ S0 H0 S H σ δ Q d, Wd K Γ S0 H0 S H σ M δ → f δ = some d → Kont K Γ H0 S H m d Q → t σ H Q
def SndT (M : List Mode) (t : TT) (f : Env → Option Bool) : Prop :=
  ∀ S0 H0 S H σ δ Q b, Wd K Γ S0 H0 S H σ M δ → f δ = some b → (∀ S' H', Ext S H S' H' → Q b H') → t σ H Q
def RepMs (H0 S H : Hp) : List Mode → List D → List V → Prop
  | [], ds, vs => ds = [] ∧ vs = []
  | m :: ms, ds, vs => ∃ d ds' v vs', ds = d :: ds' ∧ vs = v :: vs' ∧ RepM K Γ H0 S H m d v ∧ RepMs H0 S H ms ds' vs'
def SndA (M : List Mode) (t : TA) (f : Env → Option (List D)) (ms : List Mode) : Prop :=
  ∀ S0 H0 S H σ δ Q ds, Wd K Γ S0 H0 S H σ M δ → f δ = some ds → (∀ vs S' H', Ext S H S' H' → RepMs K Γ H0 S' H' ms ds vs → Q vs H') → t σ H Q
end
structure DE (Γ : CM) (X : Cx) (M : List Mode) (e : Expr) (t : TE) (f : Ev) (m : Mode) : Prop where
  pe : PE X e t
  snd : SndE X.K Γ M t f m
structure DT (Γ : CM) (X : Cx) (M : List Mode) (e : Expr) (t : TT) (f : Env → Option Bool) : Prop where
  pt : PT X e t
  snd : SndT X.K Γ M t f
structure DW (Γ : CM) (X : Cx) (M : List Mode) (e : Expr) (t : TT) (f : Env → Option Bool) : Prop where
  pw : PW X e t
  snd : SndT X.K Γ M t f
structure DA (Γ : CM) (X : Cx) (M : List Mode) (es : List Expr) (t : TA) (f : Env → Option (List D)) (ms : List Mode) : Prop where
  pa : PA X es t
  snd : SndA X.K Γ M t f ms
/-- an operation by values -/
def SndR2 (K : PySem.W.Frag) (Γ : CM) (r : R2) (op : D → D → Option D) (m : Mode) : Prop :=
  ∀ H0 S H ma mb a b d x y Q, Same S H → Same H0 H → RepM K Γ H0 S H ma a x → RepM K Γ H0 S H mb b y → op a b = some d → Kont K Γ H0 S H m d Q → r x y H Q
structure OpD (Γ : CM) (X : Cx) (f : Value → Value → Sem Value) (r : R2) (o : D → D → Option D) (m : Mode) : Prop where
  op : OpR X f r
  snd : SndR2 X.K Γ r o m

section
variable {K : PySem.W.Frag} {Γ : CM} {H0 S H S' H' : Hp} {M : List Mode} {t ta tb : TE} {f g : Ev} {m ma mb : Mode} {d : D} {Q : VK}
/-- the end without new objects -/
theorem Kont.same (k : Kont K Γ H0 S H m d Q) (s : Same S H) {v : V} (r : RepM K Γ H0 S H m d v) (hm : m ≠ .ow) : Q v H := k v S H (Ext.refl s) r fun z => (hm z).elim
theorem Kont.flat {v : V} (k : Kont K Γ H0 S H .sh d Q) (s : Same S H) (r : Rep K Γ S d v) : Q v H := k v S H (Ext.refl s) r fun z => by cases z
theorem Kont.ext (k : Kont K Γ H0 S H m d Q) (e : Ext S H S' H') : Kont K Γ H0 S' H' m d Q := fun v S2 H2 e2 r f => k v S2 H2 (e.trans e2) r fun z a ev => e.hh.free (f z a ev)
theorem SndE.bin {S0 : Hp} {σ : St} {δ : Env} (sa : SndE K Γ M ta f ma) (sb : SndE K Γ M tb g mb) (w : Wd K Γ S0 H0 S H σ M δ) {a b : D} (ea : f δ = some a) (eb : g δ = some b) {R : V → V → Hp → Prop}
    (k : ∀ x y S' H', Ext S H S' H' → RepM K Γ H0 S' H' ma a x → RepM K Γ H0 S' H' mb b y → Same H0 H' → R x y H') : ta σ H fun x H1 => tb σ H1 fun y H2 => R x y H2 := by
  refine sa S0 H0 S H σ δ _ a w ea fun x S1 H1 e1 r1 _ => ?_
  refine sb S0 H0 S1 H1 σ δ _ b (w.mono e1) eb fun y S2 H2 e2 r2 _ => ?_
  exact k x y S2 H2 (e1.trans e2) (r1.mono e2) r2 ((w.mono e1).mono e2).h0
/-- a fresh one may be shared; what is shared may be read -/
theorem SndE.share (s : SndE K Γ M t f .ow) : SndE K Γ M t f .sh := fun S0 H0 S H σ δ Q d w ef k => by
  refine s S0 H0 S H σ δ Q d w ef fun v S1 H1 e1 r1 fr => ?_
  obtain ⟨a, ev, n, top⟩ := r1
  obtain ⟨S2, ss, s2, r2, off⟩ := top.share e1.sh n
  have ha := fr rfl a ev
  refine k v S2 H1 ⟨e1.ss.trans ss, e1.hh, s2, fun b o hb nb => ?_⟩ (ev ▸ r2) fun z => by cases z
  have nba : b ≠ a := fun e => by rw [e, ha] at hb; cases hb
  rw [off b nba]
  exact e1.fr b o hb nb
def okS : Mode → Bool
  | .sh => true
  | .ow => true
  | _ => false
theorem SndE.sh (s : SndE K Γ M t f m) (h : okS m = true) : SndE K Γ M t f .sh := by
  cases m with
  | sh => exact s
  | ow => exact s.share
  | _ => cases h
end

/-! ### names, constants -/
section
variable {X : Cx} {Γ : CM} {M : List Mode} {e a b c : Expr} {t ta tb tc : TE} {f g h : Ev} {m ma mb mc : Mode} {pos : Pos}
def vVar (i : Nat) : Ev := fun δ => (δ[i]?).join
def rdM : Mode → Mode
  | .ow => .rd
  | m => m
theorem snd_var {K : PySem.W.Frag} {i : Nat} (hm : md M i = m) : SndE K Γ M (tVar i) (vVar i) (rdM m) := fun S0 H0 S H σ δ Q d w ef k => by
  have e : δ[i]? = some (some d) := by
    unfold vVar at ef
    cases q : δ[i]? with
    | none => rw [q] at ef; cases ef
    | some o => rw [q] at ef; cases o with
      | none => cases ef
      | some x => cases ef; rfl
  obtain ⟨v, hv, r⟩ := w.slot i d e
  rw [hm] at r
  refine ⟨v, hv, k v S H (Ext.refl w.sH) ?_ fun z => ?_⟩
  · cases m with
    | ow => exact r.rd w.h0
    | _ => exact r
  · cases m <;> cases z
theorem de_var {i : Nat} {x : Str} (hm : md M i = m := by rfl) (hN : X.N[i]? = some x := by rfl) (hv : Vis X.env.scope x := by first | exact Or.inl rfl | exact Or.inr (Or.inl rfl) | exact Or.inr (Or.inr rfl)) (hd : (x == ("__debug__" : Str)) = false := by decide)
    (hcd : (x == ("__classdict__" : Str)) = false := by decide) : DE Γ X M (.Name x pos) (tVar i) (vVar i) (rdM m) := ⟨pe_var hN hv hd hcd, snd_var hm⟩
def vC (d : D) : Ev := fun _ => some d
theorem snd_c {K : PySem.W.Frag} {d : D} {v : V} (h : ∀ S, Rep K Γ S d v) : SndE K Γ M (tC v) (vC d) .sh := fun S0 H0 S H σ δ Q d' w ef k => by
  cases ef
  exact k.flat w.sH (h S)
theorem de_int {i j} : DE Γ X M (.Constant (.int i) j pos) (tC (.int i)) (vC (.int i)) .sh := ⟨pe_int, snd_c fun _ => rfl⟩
theorem de_bl {i j} : DE Γ X M (.Constant (.bool i) j pos) (tC (.bl i)) (vC (.bl i)) .sh := ⟨pe_bl, snd_c fun _ => rfl⟩
theorem de_non {j} : DE Γ X M (.Constant .none j pos) (tC .non) (vC .non) .sh := ⟨pe_non, snd_c fun _ => rfl⟩
theorem de_str {x j} (hx : x.length ≤ sizeLine := by decide +kernel) : DE Γ X M (.Constant (.str x) j pos) (tC (.str x)) (vC (.str x)) .sh := ⟨pe_str, snd_c fun _ => ⟨rfl, hx⟩⟩
/-- a module's constant -/
theorem de_glob {x : Str} {v : V} {u : Value} {d : D} (hg : Gl X x) (hm : X.mg x = some u) (r : RelV v u) (h : ∀ S, Rep X.K Γ S d v) (hd : (x == ("__debug__" : Str)) = false := by decide) : DE Γ X M (.Name x pos) (tC v) (vC d) .sh := ⟨pe_glob hg hm r hd, snd_c h⟩

/-! ### operations -/
def v2 (op : D → D → Option D) (f g : Ev) : Ev := fun δ => (f δ).bind fun a => (g δ).bind fun b => op a b
theorem v2_some {op : D → D → Option D} {δ : Env} {d : D} (h : v2 op f g δ = some d) : ∃ a b, f δ = some a ∧ g δ = some b ∧ op a b = some d := by
  unfold v2 at h
  cases p : f δ with
  | none => rw [p] at h; cases h
  | some a =>
    rw [p] at h
    cases q : g δ with
    | none => rw [Option.bind_some, q] at h; cases h
    | some b => rw [Option.bind_some, q] at h; exact ⟨a, b, rfl, rfl, h⟩
theorem snd_op {K : PySem.W.Frag} {r : R2} {op : D → D → Option D} (o : SndR2 K Γ r op m) (sa : SndE K Γ M ta f ma) (sb : SndE K Γ M tb g mb) : SndE K Γ M (tOp r ta tb) (v2 op f g) m := fun S0 H0 S H σ δ Q d w ef k => by
  obtain ⟨x, y, ea, eb, e⟩ := v2_some ef
  refine sa.bin sb w ea eb fun u v S' H' ex ru rv h0 => ?_
  exact o H0 S' H' ma mb x y d u v Q ex.sh h0 ru rv e (k.ext ex)
theorem de_op {op : Operator} {r : R2} {o : D → D → Option D} (ho : OpD Γ X (binaryOp op) r o m) (ha : DE Γ X M a ta f ma) (hb : DE Γ X M b tb g mb) : DE Γ X M (.BinOp a op b pos) (tOp r ta tb) (v2 o f g) m :=
  ⟨pe_op ho.op ha.pe hb.pe, snd_op ho.snd ha.snd hb.snd⟩
theorem de_cmp {op : CmpOp} {r : R2} {o : D → D → Option D} (ho : OpD Γ X (compareOp op) r o m) (ha : DE Γ X M a ta f ma) (hb : DE Γ X M b tb g mb) (hm : behindInMarks op b = false := by first | exact nomark _ | rfl) : DE Γ X M (.Compare a [op] [b] pos) (tOp r ta tb) (v2 o f g) m :=
  ⟨pe_cmpR ho.op ha.pe hb.pe hm, snd_op ho.snd ha.snd hb.snd⟩
def vTst (f : Ev) : Env → Option Bool := fun δ => (f δ).bind fun d => match d with | .bl b => some b | _ => none
theorem vTst_some {δ : Env} {b : Bool} (h : vTst f δ = some b) : f δ = some (.bl b) := by
  unfold vTst at h
  cases p : f δ with
  | none => rw [p] at h; cases h
  | some d =>
    rw [p] at h
    cases d with
    | bl c => cases h; rfl
    | _ => cases h
theorem snd_tst {K : PySem.W.Frag} (s : SndE K Γ M t f m) : SndT K Γ M (fun σ H Q => t σ H fun x H' => ∃ k, x = .bl k ∧ Q k H') (vTst f) := fun S0 H0 S H σ δ Q b w ef k => by
  refine s S0 H0 S H σ δ _ _ w (vTst_some ef) fun v S' H' e r _ => ?_
  exact ⟨b, r.bl (w.mono e).h0, k S' H' e⟩
theorem dt_cmp {op : CmpOp} {r : R2} {o : D → D → Option D} (ho : OpD Γ X (compareOp op) r o m) (ha : DE Γ X M a ta f ma) (hb : DE Γ X M b tb g mb) (hm : behindInMarks op b = false := by first | exact nomark _ | rfl) :
    DT Γ X M (.Compare a [op] [b] pos) (tTest (tOp r ta tb)) (vTst (v2 o f g)) := ⟨pt_cmpR ho.op ha.pe hb.pe hm, snd_tst (snd_op ho.snd ha.snd hb.snd)⟩
/-- a value that is a truth, as a test -/
theorem dt_val (he : DE Γ X M e t f m) (hs : ∀ whole, isTrue e X.env whole = (do let v ← whole; standAt e.pos; holding [v] (truthy v)) := by intro _; rfl) : DT Γ X M e (tB t) (vTst f) := ⟨pt_val he.pe hs, snd_tst he.snd⟩

/-! a < b < c -/
def vChain (o o' : D → D → Option D) (f g h : Ev) : Ev := fun δ => (f δ).bind fun a => (g δ).bind fun b => (o a b).bind fun d => match d with
  | .bl true => (h δ).bind fun c => o' b c
  | .bl false => some (.bl false)
  | _ => none
theorem snd_chain {K : PySem.W.Frag} {r r' : R2} {o o' : D → D → Option D} (h1 : SndR2 K Γ r o .sh) (h2 : SndR2 K Γ r' o' .sh) (sa : SndE K Γ M ta f ma) (sb : SndE K Γ M tb g mb) (sc : SndE K Γ M tc h mc) :
    SndE K Γ M (tChain r r' ta tb tc) (vChain o o' f g h) .sh := fun S0 H0 S H σ δ Q d w ef k => by
  unfold vChain at ef
  cases p : f δ with
  | none => rw [p] at ef; cases ef
  | some a =>
    cases q : g δ with
    | none => rw [p, q] at ef; cases ef
    | some b =>
      rw [p, q, Option.bind_some, Option.bind_some] at ef
      cases ee : o a b with
      | none => rw [ee] at ef; cases ef
      | some z =>
        rw [ee, Option.bind_some] at ef
        refine sa.bin sb w p q fun x y S1 H1 e1 r1 r2 h0 => ?_
        refine h1 H0 S1 H1 ma mb a b z x y _ e1.sh h0 r1 r2 ee fun v S2 H2 e2 rv _ => ?_
        have w2 := (w.mono e1).mono e2
        cases z with
        | bl c =>
          refine ⟨c, rv, ?_⟩
          cases c with
          | true =>
            rw [if_pos rfl]
            cases u : h δ with
            | none => simp [u] at ef
            | some cc =>
              simp only [u, Option.bind_some] at ef
              refine sc S0 H0 S2 H2 σ δ _ cc w2 u fun v3 S3 H3 e3 r3 _ => ?_
              exact h2 H0 S3 H3 mb mc b cc d y v3 Q e3.sh (w2.mono e3).h0 ((r2.mono e2).mono e3) r3 ef (k.ext ((e1.trans e2).trans e3))
          | false =>
            rw [if_neg Bool.false_ne_true]
            cases ef
            exact (k.ext (e1.trans e2)).flat e2.sh rfl
        | _ => cases ef
theorem de_chain {op op' : CmpOp} {r r' : R2} {o o' : D → D → Option D} (h1 : OpD Γ X (compareOp op) r o .sh) (h2 : OpD Γ X (compareOp op') r' o' .sh) (ha : DE Γ X M a ta f ma) (hb : DE Γ X M b tb g mb) (hc : DE Γ X M c tc h mc)
    (hm : lastMarks [op, op'] [b, c] = false := by with_unfolding_all rfl) : DE Γ X M (.Compare a [op, op'] [b, c] pos) (tChain r r' ta tb tc) (vChain o o' f g h) .sh := ⟨pe_chain h1.op h2.op ha.pe hb.pe hc.pe hm, snd_chain h1.snd h2.snd ha.snd hb.snd hc.snd⟩
theorem dt_chain {op op' : CmpOp} {r r' : R2} {o o' : D → D → Option D} (h1 : OpD Γ X (compareOp op) r o .sh) (h2 : OpD Γ X (compareOp op') r' o' .sh) (ha : DE Γ X M a ta f ma) (hb : DE Γ X M b tb g mb) (hc : DE Γ X M c tc h mc)
    (hm : lastMarks [op, op'] [b, c] = false := by with_unfolding_all rfl) : DT Γ X M (.Compare a [op, op'] [b, c] pos) (tTest (tChain r r' ta tb tc)) (vTst (vChain o o' f g h)) := ⟨pt_chain h1.op h2.op ha.pe hb.pe hc.pe hm, snd_tst (snd_chain h1.snd h2.snd ha.snd hb.snd hc.snd)⟩
end
end Dl
/-! operations by values. -/
namespace Dl
open PySem L2
theorem opR_or {X : Cx} {f : Value → Value → Sem Value} {r r' : R2} (h : OpR X f r) (h' : OpR X f r') : OpR X f (fun x y H Q => r x y H Q ∨ r' x y H Q) := by
  intro pins s σ H x y v u Q I rx ry q
  rcases q with q | q
  · exact h pins s σ H x y v u Q I rx ry q
  · exact h' pins s σ H x y v u Q I rx ry q
section
variable {K : PySem.W.Frag} {Γ : CM} {H0 S H : Hp} {m : Mode} {Q : VK}
/-- a new list; new tuple -/
theorem Kont.newL {ds : List D} {vs : List V} (k : Kont K Γ H0 S H m (.lst ds) Q) (hm : okS m = true) (sh : Same S H) (hl : ds.length ≤ sizeLine) (r : RepL K Γ S ds vs) {p : Addr} (hp : H p = none) : Q (.ref p) (upd H p (.lst vs)) := by
  cases m with
  | sh => exact k _ _ _ (Ext.shared sh hp _) ⟨p, vs, rfl, upd_same, hl, r.mono (Same.upd (Same.none sh hp))⟩ fun z => by cases z
  | ow => exact k _ _ _ (Ext.owned sh hp _) ⟨p, rfl, Same.none sh hp, vs, upd_same, hl, r⟩ fun _ a e => by cases e; exact hp
  | _ => cases hm
theorem Kont.newT {ds : List D} {vs : List V} (k : Kont K Γ H0 S H .sh (.tup ds) Q) (sh : Same S H) (hl : ds.length ≤ sizeLine) (r : RepL K Γ S ds vs) {p : Addr} (hp : H p = none) : Q (.ref p) (upd H p (.tup vs)) :=
  k _ _ _ (Ext.shared sh hp _) ⟨p, vs, rfl, upd_same, hl, r.mono (Same.upd (Same.none sh hp))⟩ fun z => by cases z
theorem Kont.newK {ds : List (Key × D)} {vs : List (Key × V)} (k : Kont K Γ H0 S H m (.dicK ds) Q) (hm : okS m = true) (sh : Same S H) (r : RepK K Γ S ds vs) {p : Addr} (hp : H p = none) : Q (.ref p) (upd H p (.dK vs)) := by
  cases m with
  | sh => exact k _ _ _ (Ext.shared sh hp _) ⟨p, vs, rfl, upd_same, r.mono (Same.upd (Same.none sh hp))⟩ fun z => by cases z
  | ow => exact k _ _ _ (Ext.owned sh hp _) ⟨p, rfl, Same.none sh hp, vs, upd_same, r⟩ fun _ a e => by cases e; exact hp
  | _ => cases hm
theorem Kont.newDT {ds : List (List Key × D)} {vs : List (List Key × V)} (k : Kont K Γ H0 S H m (.dicT ds) Q) (hm : okS m = true) (sh : Same S H) (r : RepT K Γ S ds vs) {p : Addr} (hp : H p = none) : Q (.ref p) (upd H p (.dT vs)) := by
  cases m with
  | sh => exact k _ _ _ (Ext.shared sh hp _) ⟨p, vs, rfl, upd_same, r.mono (Same.upd (Same.none sh hp))⟩ fun z => by cases z
  | ow => exact k _ _ _ (Ext.owned sh hp _) ⟨p, rfl, Same.none sh hp, vs, upd_same, r⟩ fun _ a e => by cases e; exact hp
  | _ => cases hm
theorem Same.sq (h0 : Same S H) {a : Addr} {vs : List V} (h : SqT K S a vs) : SqT K H a vs := Same.sqt h0 h
end

theorem ite_some {α : Type} {c : Prop} [Decidable c] {a d : α} (h : (if c then some a else none) = some d) : c ∧ a = d := by
  by_cases q : c
  · rw [if_pos q] at h; exact ⟨q, Option.some.inj h⟩
  · rw [if_neg q] at h; cases h
/-! ### + -/
def opAdd : D → D → Option D
  | .int i, .int j => some (.int (i + j))
  | .str a, .str b => if a.length + b.length ≤ sizeLine then some (.str (a ++ b)) else none
  | .tup a, .tup b => if a.length + b.length ≤ sizeLine then some (.tup (a ++ b)) else none
  | .lst a, .lst b => if a.length + b.length ≤ sizeLine then some (.lst (a ++ b)) else none
  | _, _ => none
def rAddD (K : PySem.W.Frag) : R2 := fun x y H Q => rI0 (fun i j => .int (i + j)) x y H Q ∨ ((∃ i j, x = .str i ∧ y = .str j ∧ i.length + j.length ≤ sizeLine ∧ Q (.str (i ++ j)) H) ∨ (rCatA K x y H Q ∨ rCat x y H Q))
theorem str_len_append (a b : Str) : (a ++ b).length = a.length + b.length := by
  show (a.cps ++ b.cps).size = _
  rw [Array.size_append]; rfl
theorem od_add {X : Cx} {Γ : CM} : OpD Γ X (binaryOp .Add) (rAddD X.K) opAdd .sh := by
  refine ⟨opR_or op_add (opR_or op_add_str (opR_or op_catA op_cat)), ?_⟩
  intro H0 S H ma mb a b d x y Q sh h0 ra rb e k
  cases a with
  | int i =>
    cases b with
    | int j =>
      cases e
      exact .inl ⟨i, j, ra.int h0, rb.int h0, k.flat sh rfl⟩
    | _ => cases e
  | str i =>
    cases b with
    | str j =>
      obtain ⟨hl, rfl⟩ := ite_some e
      exact .inr (.inl ⟨i, j, (ra.str h0).1, (rb.str h0).1, hl, k.flat sh ⟨rfl, by rw [str_len_append]; exact hl⟩⟩)
    | _ => cases e
  | tup i =>
    cases b with
    | tup j =>
      obtain ⟨hl, rfl⟩ := ite_some e
      obtain ⟨p, vs, rfl, h1, l1, r1⟩ := ra.tup h0
      obtain ⟨q, ws, rfl, h2, l2, r2⟩ := rb.tup h0
      have n1 := r1.length
      have n2 := r2.length
      refine .inr (.inr (.inl ⟨p, q, vs, ws, rfl, rfl, SqT.of (sh _ _ h1), SqT.of (sh _ _ h2), by omega, fun e1 => ?_, fun _ e2 => ?_, fun _ _ t ht => ?_⟩))
      · subst e1
        have : i = [] := List.length_eq_zero_iff.mp n1.symm
        subst this
        exact k.flat sh ⟨q, ws, rfl, h2, by simpa using hl, by simpa using r2⟩
      · subst e2
        have : j = [] := List.length_eq_zero_iff.mp n2.symm
        subst this
        rw [List.append_nil] at k
        exact k.flat sh ⟨p, vs, rfl, h1, l1, r1⟩
      · exact k.newT sh (by rw [List.length_append]; exact hl) (r1.append r2) ht
    | _ => cases e
  | lst i =>
    cases b with
    | lst j =>
      obtain ⟨hl, rfl⟩ := ite_some e
      obtain ⟨p, vs, rfl, h1, l1, r1⟩ := ra.lst sh h0
      obtain ⟨q, ws, rfl, h2, l2, r2⟩ := rb.lst sh h0
      have n1 := r1.length
      have n2 := r2.length
      exact .inr (.inr (.inr ⟨p, q, vs, ws, rfl, rfl, h1, h2, by omega, fun t ht => k.newL rfl sh (by rw [List.length_append]; exact hl) (r1.append r2) ht⟩))
    | _ => cases e
  | _ => cases e
/-- of lists: a list of one's own -/
def opCat : D → D → Option D
  | .lst a, .lst b => if a.length + b.length ≤ sizeLine then some (.lst (a ++ b)) else none
  | _, _ => none
theorem od_cat {X : Cx} {Γ : CM} : OpD Γ X (binaryOp .Add) rCat opCat .ow := by
  refine ⟨op_cat, ?_⟩
  intro H0 S H ma mb a b d x y Q sh h0 ra rb e k
  cases a with
  | lst i =>
    cases b with
    | lst j =>
      obtain ⟨hl, rfl⟩ := ite_some e
      obtain ⟨p, vs, rfl, h1, l1, r1⟩ := ra.lst sh h0
      obtain ⟨q, ws, rfl, h2, l2, r2⟩ := rb.lst sh h0
      have n1 := r1.length
      have n2 := r2.length
      exact ⟨p, q, vs, ws, rfl, rfl, h1, h2, by omega, fun t ht => k.newL rfl sh (by rw [List.length_append]; exact hl) (r1.append r2) ht⟩
    | _ => cases e
  | _ => cases e

/-! ### ints -/
def opI (g : Int → Int → Option D) : D → D → Option D
  | .int i, .int j => g i j
  | _, _ => none
theorem opI_some {g : Int → Int → Option D} {a b d : D} (h : opI g a b = some d) : ∃ i j, a = .int i ∧ b = .int j ∧ g i j = some d := by
  cases a with
  | int i => cases b with
    | int j => exact ⟨i, j, rfl, rfl, h⟩
    | _ => cases h
  | _ => cases h
theorem od_I {X : Cx} {Γ : CM} {f : Value → Value → Sem Value} {C : Int → Int → Prop} {g : Int → Int → V} {o : Int → Int → Option D} (h : OpR X f (rI C g)) (ho : ∀ i j d, o i j = some d → C i j ∧ ∀ S, Rep X.K Γ S d (g i j)) : OpD Γ X f (rI C g) (opI o) .sh :=
  ⟨h, fun H0 S H ma mb a b d x y Q sh h0 ra rb e k => by
    obtain ⟨i, j, rfl, rfl, e⟩ := opI_some e
    obtain ⟨c, r⟩ := ho i j d e
    exact ⟨i, j, ra.int h0, rb.int h0, c, k.flat sh (r S)⟩⟩
theorem od_I0 {X : Cx} {Γ : CM} {f : Value → Value → Sem Value} {g : Int → Int → V} {o : Int → Int → Option D} (h : OpR X f (rI0 g)) (ho : ∀ i j d, o i j = some d → ∀ S, Rep X.K Γ S d (g i j)) : OpD Γ X f (rI0 g) (opI o) .sh :=
  ⟨h, fun H0 S H ma mb a b d x y Q sh h0 ra rb e k => by
    obtain ⟨i, j, rfl, rfl, e⟩ := opI_some e
    exact ⟨i, j, ra.int h0, rb.int h0, k.flat sh (ho i j d e S)⟩⟩
def opSub := opI fun i j => some (.int (i - j))
theorem od_sub {X : Cx} {Γ : CM} : OpD Γ X (binaryOp .Sub) (rI0 fun i j => .int (i - j)) opSub .sh := od_I0 op_sub fun i j d h S => by cases h; rfl
def mulOk (i j : Int) : Bool := (decide (-(2 ^ 64) < i) && decide (i < 2 ^ 64)) || (decide (-(2 ^ 64) < j) && decide (j < 2 ^ 64))
def opMulI := opI fun i j => if mulOk i j then some (.int (i * j)) else none
theorem od_mulI {X : Cx} {Γ : CM} : OpD Γ X (binaryOp .Mult) (rI CMul fun i j => .int (i * j)) opMulI .sh := od_I op_mul fun i j d h => by
  split at h
  · rename_i c
    cases h
    refine ⟨?_, fun S => rfl⟩
    unfold mulOk at c
    simp only [Bool.or_eq_true, Bool.and_eq_true, decide_eq_true_eq] at c
    exact c
  · cases h
def opMod := opI fun i j => if 0 < j then some (.int (i % j)) else none
theorem od_mod {X : Cx} {Γ : CM} : OpD Γ X (binaryOp .Mod) (rI (fun _ j => 0 < j) fun i j => .int (i % j)) opMod .sh := od_I op_mod fun i j d h => by
  split at h
  · rename_i c; cases h; exact ⟨c, fun S => rfl⟩
  · cases h
def opDiv := opI fun i j => if 0 < j ∧ j < 1073741824 then some (.int (i / j)) else none
theorem od_div {X : Cx} {Γ : CM} : OpD Γ X (binaryOp .FloorDiv) (rI CDiv fun i j => .int (i / j)) opDiv .sh := od_I op_fdiv fun i j d h => by
  split at h
  · rename_i c; cases h; exact ⟨c, fun S => rfl⟩
  · cases h
def opPow := opI fun i j => if 0 ≤ j ∧ j ≤ 1000000 ∧ i.natAbs < 2 ^ 64 then some (.int (i ^ j.toNat)) else none
theorem od_pow {X : Cx} {Γ : CM} : OpD Γ X (binaryOp .Pow) (rI CPow fun i j => .int (i ^ j.toNat)) opPow .sh := od_I op_pow fun i j d h => by
  split at h
  · rename_i c; cases h; exact ⟨c, fun S => rfl⟩
  · cases h
def opLt := opI fun i j => some (.bl (decide (i < j)))
def opLe := opI fun i j => some (.bl (decide (i ≤ j)))
def opGt := opI fun i j => some (.bl (decide (j < i)))
def opGe := opI fun i j => some (.bl (decide (j ≤ i)))
theorem od_lt {X : Cx} {Γ : CM} : OpD Γ X (compareOp .Lt) (rI0 fun i j => .bl (decide (i < j))) opLt .sh := od_I0 op_lt fun i j d h S => by cases h; rfl
theorem od_le {X : Cx} {Γ : CM} : OpD Γ X (compareOp .LtE) (rI0 fun i j => .bl (decide (i ≤ j))) opLe .sh := od_I0 op_le fun i j d h S => by cases h; rfl
theorem od_gt {X : Cx} {Γ : CM} : OpD Γ X (compareOp .Gt) (rI0 fun i j => .bl (decide (j < i))) opGt .sh := od_I0 op_gt fun i j d h S => by cases h; rfl
theorem od_ge {X : Cx} {Γ : CM} : OpD Γ X (compareOp .GtE) (rI0 fun i j => .bl (decide (j ≤ i))) opGe .sh := od_I0 op_ge fun i j d h S => by cases h; rfl

/-! ### [..] * n -/
def opMul : D → D → Option D
  | .lst ds, .int k => if k < 2 ^ 62 ∧ -(2 ^ 62) < k ∧ ds.length * k.toNat ≤ sizeLine then some (.lst (List.replicate k.toNat ds).flatten) else none
  | _, _ => none
theorem RepL.rep {K : PySem.W.Frag} {Γ : CM} {S : Hp} {ds : List D} {vs : List V} (r : RepL K Γ S ds vs) : ∀ n, RepL K Γ S (List.replicate n ds).flatten (List.replicate n vs).flatten
  | 0 => rfl
  | n + 1 => by rw [List.replicate_succ, List.replicate_succ, List.flatten_cons, List.flatten_cons]; exact r.append (RepL.rep r n)
theorem flat_len {α : Type} (l : List α) : ∀ n, (List.replicate n l).flatten.length = l.length * n
  | 0 => by simp
  | n + 1 => by rw [List.replicate_succ, List.flatten_cons, List.length_append, flat_len l n, Nat.mul_succ, Nat.add_comm]
theorem od_mulL {X : Cx} {Γ : CM} (hm : okS m = true) : OpD Γ X (binaryOp .Mult) rRep opMul m := by
  refine ⟨op_rep, ?_⟩
  intro H0 S H ma mb a b d x y Q sh h0 ra rb e k
  cases a with
  | lst ds =>
    cases b with
    | int j =>
      obtain ⟨hl, rfl⟩ := ite_some e
      obtain ⟨p, vs, rfl, h1, l1, r1⟩ := ra.lst sh h0
      have n1 := r1.length
      refine ⟨p, j, vs, rfl, rb.int h0, h1, by omega, by omega, by rw [n1]; exact hl.2.2, fun t ht => k.newL hm sh (by rw [flat_len]; exact hl.2.2) (r1.rep _) ht⟩
    | _ => cases e
  | _ => cases e

/-! ### ==, != at any depth -/
def rEqP (K : PySem.W.Frag) (Γ : CM) : R2 := fun x y H Q => ∃ d e, Rep K Γ H d x ∧ Rep K Γ H e y ∧ cmpOk d e = true ∧ Q (.bl (D.eqv d e)) H
def rNeP (K : PySem.W.Frag) (Γ : CM) : R2 := fun x y H Q => ∃ d e, Rep K Γ H d x ∧ Rep K Γ H e y ∧ cmpOk d e = true ∧ Q (.bl (!D.eqv d e)) H
theorem cmpOk_and {d e : D} (h : cmpOk d e = true) : d.py.plain = true ∧ e.py.plain = true ∧ min d.py.depth e.py.depth ≤ 60 := by
  unfold cmpOk at h
  simp only [Bool.and_eq_true, decide_eq_true_eq] at h
  exact ⟨h.1.1, h.1.2, h.2⟩
theorem op_eqP {X : Cx} {Γ : CM} (hu : X.A.units + 64 < cLine) : OpR X (compareOp .Eq) (rEqP X.K Γ) := by
  intro pins s σ H x y v u Q I rx ry ⟨d, e, rd, re, c, q⟩
  obtain ⟨c1, c2, c3⟩ := cmpOk_and c
  obtain ⟨as, r1⟩ := Rep.reads I d x v rd rx c1
  obtain ⟨bs, r2⟩ := Rep.reads I e y u re ry c2
  exact PySem.SeqAt.eq_plain r1 r2 c1 c2 (by omega) ⟨.bl _, H, I, rfl, q⟩
theorem op_neP {X : Cx} {Γ : CM} (hu : X.A.units + 64 < cLine) : OpR X (compareOp .NotEq) (rNeP X.K Γ) := by
  intro pins s σ H x y v u Q I rx ry ⟨d, e, rd, re, c, q⟩
  obtain ⟨c1, c2, c3⟩ := cmpOk_and c
  obtain ⟨as, r1⟩ := Rep.reads I d x v rd rx c1
  obtain ⟨bs, r2⟩ := Rep.reads I e y u re ry c2
  exact PySem.SeqAt.ne_plain r1 r2 c1 c2 (by omega) ⟨.bl _, H, I, rfl, q⟩
theorem od_eq {X : Cx} {Γ : CM} (hu : X.A.units + 64 < cLine) : OpD Γ X (compareOp .Eq) (rEqP X.K Γ) opEq .sh :=
  ⟨op_eqP hu, fun H0 S H ma mb a b d x y Q sh h0 ra rb e k => by
    obtain ⟨c, rfl⟩ := ite_some e
    exact ⟨a, b, ra.full sh h0, rb.full sh h0, c, k.flat sh rfl⟩⟩
theorem od_ne {X : Cx} {Γ : CM} (hu : X.A.units + 64 < cLine) : OpD Γ X (compareOp .NotEq) (rNeP X.K Γ) opNe .sh :=
  ⟨op_neP hu, fun H0 S H ma mb a b d x y Q sh h0 ra rb e k => by
    obtain ⟨c, rfl⟩ := ite_some e
    exact ⟨a, b, ra.full sh h0, rb.full sh h0, c, k.flat sh rfl⟩⟩
/-! ### is None -/
def isNon : D → Bool
  | .non => true
  | _ => false
def opIs : D → D → Option D
  | a, .non => some (.bl (isNon a))
  | _, _ => none
def opNot : D → D → Option D
  | a, .non => some (.bl (!isNon a))
  | _, _ => none
theorem Rep.non_iff {K : PySem.W.Frag} {Γ : CM} {H : Hp} {d : D} {v : V} (r : Rep K Γ H d v) : decide (v = .non) = isNon d := by
  cases d with
  | non => cases (show v = .non from r); rfl
  | bl b => cases (show v = .bl b from r); rfl
  | int b => cases (show v = .int b from r); rfl
  | str b => obtain ⟨rfl, _⟩ := r; rfl
  | ty b => cases (show v = .ty b from r); rfl
  | scr b => obtain ⟨a, rfl, _⟩ := r; rfl
  | lst b => obtain ⟨a, vs, rfl, _⟩ := r; rfl
  | tup b => obtain ⟨a, vs, rfl, _⟩ := r; rfl
  | ktup b => obtain ⟨a, vs, rfl, _⟩ := r; rfl
  | dicK b => obtain ⟨a, vs, rfl, _⟩ := r; rfl
  | dicT b => obtain ⟨a, vs, rfl, _⟩ := r; rfl
  | ins c b => obtain ⟨a, C, dx, vs, rfl, _⟩ := r; rfl
theorem opIs_some {g : Bool → Bool} {f : D → D → Option D} (hf : ∀ a b d, f a b = some d → b = .non ∧ d = .bl (g (isNon a))) : ∀ a b d, f a b = some d → b = .non ∧ d = .bl (g (isNon a)) := hf
theorem od_is {X : Cx} {Γ : CM} : OpD Γ X (compareOp .Is) (fun x y H Q => y = .non ∧ Q (.bl (decide (x = .non))) H) opIs .sh :=
  ⟨op_isN, fun H0 S H ma mb a b d x y Q sh h0 ra rb e k => by
    cases b with
    | non =>
      cases e
      refine ⟨rb.non h0, ?_⟩
      rw [(ra.full sh h0).non_iff]
      exact k.flat sh rfl
    | _ => cases e⟩
theorem od_isnot {X : Cx} {Γ : CM} : OpD Γ X (compareOp .IsNot) (fun x y H Q => y = .non ∧ Q (.bl (!decide (x = .non))) H) opNot .sh :=
  ⟨op_notN, fun H0 S H ma mb a b d x y Q sh h0 ra rb e k => by
    cases b with
    | non =>
      cases e
      refine ⟨rb.non h0, ?_⟩
      rw [(ra.full sh h0).non_iff]
      exact k.flat sh rfl
    | _ => cases e⟩
/-! ### in -/
def strIn (a b : Str) : Bool := !(Builtin.Str.occurrences b a 0 b.length 1).isEmpty
def keyD : D → Option Key
  | .int i => some (.inl i)
  | .str x => some (.inr x)
  | _ => none
def keysD : D → Option (List Key)
  | .tup ds => ds.mapM keyD
  | _ => none
def lookK : List (Key × D) → Key → Option D
  | [], _ => none
  | (k, d) :: r, j => if k = j then some d else lookK r j
def lookT : List (List Key × D) → List Key → Option D
  | [], _ => none
  | (k, d) :: r, j => if k = j then some d else lookT r j
def opInB : D → D → Option Bool
  | a, .lst ds => if cmpOk (.lst ds) a then some (ds.any fun y => D.eqv y a) else none
  | a, .tup ds => if cmpOk (.tup ds) a then some (ds.any fun y => D.eqv y a) else none
  | a, .ktup ds => if cmpOk (.ktup ds) a then some (ds.any fun y => D.eqv y a) else none
  | .str a, .str b => some (strIn a b)
  | a, .dicK kvs => (keyD a).map fun k => (lookK kvs k).isSome
  | a, .dicT kvs => (keysD a).map fun k => (lookT kvs k).isSome
  | _, _ => none
def opIn (a b : D) : Option D := (opInB a b).map D.bl
def opNin (a b : D) : Option D := (opInB a b).map fun c => D.bl (!c)
def rInP (K : PySem.W.Frag) (Γ : CM) (neg : Bool) : R2 := fun x y H Q => ∃ d e b, Rep K Γ H d x ∧ Rep K Γ H e y ∧ opInB d e = some b ∧ Q (.bl (if neg then !b else b)) H
theorem pyL_any (a : D) : ∀ ds : List D, ((D.pyL ds).any fun y => PyData.eqv y a.py) = ds.any fun y => D.eqv y a
  | [] => rfl
  | d :: ds => by
    show (PyData.eqv d.py a.py || (D.pyL ds).any _) = _
    rw [pyL_any a ds]; rfl
theorem valV_look {K : PySem.W.Frag} {Γ : CM} {S : Hp} : ∀ {kvs : List (Key × D)} {vs : List (Key × V)} (k : Key), RepK K Γ S kvs vs → (match lookK kvs k with | some d => ∃ v, valV vs k = some v ∧ Rep K Γ S d v | none => valV vs k = none)
  | [], vs, k, r => by cases (show vs = [] from r); rfl
  | (j, d) :: kvs, _, k, ⟨v, ws, e, r, t⟩ => by
    subst e
    have ih := valV_look k t
    unfold lookK
    by_cases q : j = k
    · subst q
      rw [if_pos rfl]
      exact ⟨v, by simp [valV], r⟩
    · rw [if_neg q]
      have e : valV ((j, v) :: ws) k = valV ws k := by simp [valV, q]
      rw [e]
      exact ih
theorem valV_lookT {K : PySem.W.Frag} {Γ : CM} {S : Hp} : ∀ {kvs : List (List Key × D)} {vs : List (List Key × V)} (k : List Key), RepT K Γ S kvs vs → (match lookT kvs k with | some d => ∃ v, valV vs k = some v ∧ Rep K Γ S d v | none => valV vs k = none)
  | [], vs, k, r => by cases (show vs = [] from r); rfl
  | (j, d) :: kvs, _, k, ⟨v, ws, e, r, t⟩ => by
    subst e
    have ih := valV_lookT k t
    unfold lookT
    by_cases q : j = k
    · subst q
      rw [if_pos rfl]
      exact ⟨v, by simp [valV], r⟩
    · rw [if_neg q]
      have e : valV ((j, v) :: ws) k = valV ws k := by simp [valV, q]
      rw [e]
      exact ih
end Dl
/-! in, items, slices, tests, displays, fields, len. -/
namespace Dl
open PySem L2
section
variable {K : PySem.W.Frag} {Γ : CM} {S H : Hp}
theorem RepL.keys : ∀ {ds : List D} {vs : List V} {ks : List Key}, RepL K Γ S ds vs → ds.mapM keyD = some ks → vs = ks.map kV
  | [], vs, ks, r, h => by
    cases (show vs = [] from r)
    cases h; rfl
  | d :: ds, _, ks, ⟨v, ws, e, r, t⟩, h => by
    subst e
    rw [List.mapM_cons] at h
    cases q : keyD d with
    | none => rw [q] at h; cases h
    | some k =>
      cases q2 : ds.mapM keyD with
      | none => rw [q, q2] at h; cases h
      | some ks' =>
        rw [q, q2] at h
        cases h
        have e1 : v = kV k := by
          cases d with
          | int i => cases q; exact r
          | str x => cases q; exact r.1
          | _ => cases q
        rw [List.map_cons, ← RepL.keys t q2, e1]
theorem Rep.key {d : D} {v : V} {k : Key} (r : Rep K Γ S d v) (h : keyD d = some k) : v = kV k := by
  cases d with
  | int i => cases h; exact r
  | str x => cases h; exact r.1
  | _ => cases h
theorem Rep.keys {d : D} {v : V} {k : List Key} (r : Rep K Γ S d v) (h : keysD d = some k) : ∃ b, v = .ref b ∧ S b = some (.tup (k.map kV)) := by
  cases d with
  | tup ds =>
    obtain ⟨a, vs, e, hs, _, q⟩ := r
    exact ⟨a, e, by rw [hs, q.keys h]⟩
  | _ => cases h
theorem dget_k {kvs : List (Key × D)} {d : D} {v : V} {k : Key} {a : Addr} {vs : List (Key × V)} (r : Rep K Γ H d v) (h : keyD d = some k) (e : H a = some (.dK vs)) : DGet H a v (valV vs k) := by
  rw [r.key h]; exact DGet.k e
theorem dget_t {d : D} {v : V} {k : List Key} {a : Addr} {vs : List (List Key × V)} (r : Rep K Γ H d v) (h : keysD d = some k) (e : H a = some (.dT vs)) : DGet H a v (valV vs k) := by
  obtain ⟨b, rfl, eb⟩ := r.keys h
  exact DGet.t e eb
theorem look_some {kvs : List (Key × D)} {vs : List (Key × V)} (k : Key) (r : RepK K Γ S kvs vs) : (valV vs k).isSome = (lookK kvs k).isSome := by
  have h := valV_look k r
  cases q : lookK kvs k with
  | none => rw [q] at h; rw [h]; rfl
  | some d => rw [q] at h; obtain ⟨v, e, _⟩ := h; rw [e]; rfl
theorem lookT_some {kvs : List (List Key × D)} {vs : List (List Key × V)} (k : List Key) (r : RepT K Γ S kvs vs) : (valV vs k).isSome = (lookT kvs k).isSome := by
  have h := valV_lookT k r
  cases q : lookT kvs k with
  | none => rw [q] at h; rw [h]; rfl
  | some d => rw [q] at h; obtain ⟨v, e, _⟩ := h; rw [e]; rfl
end
section
variable {X : Cx} {Γ : CM}
theorem op_inP (hu : X.A.units + 64 < cLine) : OpR X (compareOp .In) (rInP X.K Γ false) := by
  intro pins s σ H x y v u Q I rx ry ⟨d, e, b, rd, re, eb, q⟩
  rw [if_neg Bool.false_ne_true] at q
  have seq : ∀ (ds : List D) (z : D) (hz : z.py = .list (D.pyL ds) ∨ z.py = .tuple (D.pyL ds)) (c : cmpOk z d = true), Rep X.K Γ H z y → b = (ds.any fun y => D.eqv y d) → wpAny (model X.prog X.w) X.A (compareOp .In v u) (EP X pins σ Q) X.xe s := fun ds z hz c rz hb => by
    obtain ⟨c1, c2, c3⟩ := cmpOk_and c
    obtain ⟨as, r1⟩ := Rep.reads I d x v rd rx c2
    obtain ⟨bs, r2⟩ := Rep.reads I z y u rz ry c1
    have fin : EP X pins σ Q (.bool ((D.pyL ds).any fun y => PyData.eqv y d.py)) s := ⟨.bl _, H, I, rfl, by rw [pyL_any, ← hb]; exact q⟩
    rcases hz with hz | hz
    · rw [hz] at r2 c1 c3
      exact PySem.SeqAt.in_list_data r2 r1 c1 c2 (by simp only [PyData.depth] at c3; omega) fin
    · rw [hz] at r2 c1 c3
      exact PySem.SeqAt.in_tuple_data r2 r1 c1 c2 (by simp only [PyData.depth] at c3; omega) fin
  cases e with
  | lst ds => obtain ⟨c, e⟩ := ite_some (show (if cmpOk (.lst ds) d = true then some (ds.any fun y => D.eqv y d) else none) = some b by cases d <;> exact eb); exact seq ds _ (.inl rfl) c re e.symm
  | tup ds => obtain ⟨c, e⟩ := ite_some (show (if cmpOk (.tup ds) d = true then some (ds.any fun y => D.eqv y d) else none) = some b by cases d <;> exact eb); exact seq ds _ (.inr rfl) c re e.symm
  | ktup ds => obtain ⟨c, e⟩ := ite_some (show (if cmpOk (.ktup ds) d = true then some (ds.any fun y => D.eqv y d) else none) = some b by cases d <;> exact eb); exact seq ds _ (.inr rfl) c re e.symm
  | str z =>
    cases d with
    | str w =>
      cases eb
      exact op_in_str pins s σ H x y v u Q I rx ry ⟨w, z, rd.1, re.1, q⟩
    | _ => cases eb
  | dicK kvs =>
    have eb : (keyD d).map (fun k => (lookK kvs k).isSome) = some b := by cases d <;> exact eb
    cases hk : keyD d with
    | none => rw [hk] at eb; cases eb
    | some k =>
      rw [hk] at eb
      obtain ⟨a, vs, rfl, h1, r1⟩ := re
      cases ry
      refine d_in (by omega) I (dget_k (kvs := kvs) rd hk h1) rx fun s' I' => ⟨.bl _, H, I', rfl, ?_⟩
      rw [look_some k r1, show (lookK kvs k).isSome = b from Option.some.inj eb]; exact q
  | dicT kvs =>
    have eb : (keysD d).map (fun k => (lookT kvs k).isSome) = some b := by cases d <;> exact eb
    cases hk : keysD d with
    | none => rw [hk] at eb; cases eb
    | some k =>
      rw [hk] at eb
      obtain ⟨a, vs, rfl, h1, r1⟩ := re
      cases ry
      refine d_in (by omega) I (dget_t rd hk h1) rx fun s' I' => ⟨.bl _, H, I', rfl, ?_⟩
      rw [lookT_some k r1, show (lookT kvs k).isSome = b from Option.some.inj eb]; exact q
  | _ => cases d <;> cases eb
theorem op_ninP (hu : X.A.units + 64 < cLine) : OpR X (compareOp .NotIn) (rInP X.K Γ true) := by
  intro pins s σ H x y v u Q I rx ry ⟨d, e, b, rd, re, eb, q⟩
  rw [if_pos rfl] at q
  have seq : ∀ (ds : List D) (z : D) (hz : z.py = .list (D.pyL ds) ∨ z.py = .tuple (D.pyL ds)) (c : cmpOk z d = true), Rep X.K Γ H z y → b = (ds.any fun y => D.eqv y d) → wpAny (model X.prog X.w) X.A (compareOp .NotIn v u) (EP X pins σ Q) X.xe s := fun ds z hz c rz hb => by
    obtain ⟨c1, c2, c3⟩ := cmpOk_and c
    obtain ⟨as, r1⟩ := Rep.reads I d x v rd rx c2
    obtain ⟨bs, r2⟩ := Rep.reads I z y u rz ry c1
    have fin : EP X pins σ Q (.bool (!(D.pyL ds).any fun y => PyData.eqv y d.py)) s := ⟨.bl _, H, I, rfl, by rw [pyL_any, ← hb]; exact q⟩
    rcases hz with hz | hz
    · rw [hz] at r2 c1 c3
      exact PySem.SeqAt.notIn_list_data r2 r1 c1 c2 (by simp only [PyData.depth] at c3; omega) fin
    · rw [hz] at r2 c1 c3
      exact PySem.SeqAt.notIn_tuple_data r2 r1 c1 c2 (by simp only [PyData.depth] at c3; omega) fin
  cases e with
  | lst ds => obtain ⟨c, e⟩ := ite_some (show (if cmpOk (.lst ds) d = true then some (ds.any fun y => D.eqv y d) else none) = some b by cases d <;> exact eb); exact seq ds _ (.inl rfl) c re e.symm
  | tup ds => obtain ⟨c, e⟩ := ite_some (show (if cmpOk (.tup ds) d = true then some (ds.any fun y => D.eqv y d) else none) = some b by cases d <;> exact eb); exact seq ds _ (.inr rfl) c re e.symm
  | ktup ds => obtain ⟨c, e⟩ := ite_some (show (if cmpOk (.ktup ds) d = true then some (ds.any fun y => D.eqv y d) else none) = some b by cases d <;> exact eb); exact seq ds _ (.inr rfl) c re e.symm
  | str z =>
    cases d with
    | str w =>
      cases eb
      exact op_notin_str pins s σ H x y v u Q I rx ry ⟨w, z, rd.1, re.1, q⟩
    | _ => cases eb
  | dicK kvs =>
    have eb : (keyD d).map (fun k => (lookK kvs k).isSome) = some b := by cases d <;> exact eb
    cases hk : keyD d with
    | none => rw [hk] at eb; cases eb
    | some k =>
      rw [hk] at eb
      obtain ⟨a, vs, rfl, h1, r1⟩ := re
      cases ry
      refine d_notIn (by omega) I (dget_k (kvs := kvs) rd hk h1) rx fun s' I' => ⟨.bl _, H, I', rfl, ?_⟩
      rw [look_some k r1, show (lookK kvs k).isSome = b from Option.some.inj eb]; exact q
  | dicT kvs =>
    have eb : (keysD d).map (fun k => (lookT kvs k).isSome) = some b := by cases d <;> exact eb
    cases hk : keysD d with
    | none => rw [hk] at eb; cases eb
    | some k =>
      rw [hk] at eb
      obtain ⟨a, vs, rfl, h1, r1⟩ := re
      cases ry
      refine d_notIn (by omega) I (dget_t rd hk h1) rx fun s' I' => ⟨.bl _, H, I', rfl, ?_⟩
      rw [lookT_some k r1, show (lookT kvs k).isSome = b from Option.some.inj eb]; exact q
  | _ => cases d <;> cases eb
theorem od_in (hu : X.A.units + 64 < cLine) : OpD Γ X (compareOp .In) (rInP X.K Γ false) opIn .sh :=
  ⟨op_inP hu, fun H0 S H ma mb a b d x y Q sh h0 ra rb e k => by
    cases q : opInB a b with
    | none => unfold opIn at e; rw [q] at e; cases e
    | some c =>
      unfold opIn at e; rw [q] at e; cases e
      exact ⟨a, b, c, ra.full sh h0, rb.full sh h0, q, k.flat sh rfl⟩⟩
theorem od_nin (hu : X.A.units + 64 < cLine) : OpD Γ X (compareOp .NotIn) (rInP X.K Γ true) opNin .sh :=
  ⟨op_ninP hu, fun H0 S H ma mb a b d x y Q sh h0 ra rb e k => by
    cases q : opInB a b with
    | none => unfold opNin at e; rw [q] at e; cases e
    | some c =>
      unfold opNin at e; rw [q] at e; cases e
      exact ⟨a, b, c, ra.full sh h0, rb.full sh h0, q, k.flat sh rfl⟩⟩

/-! ### a[b] -/
def opIx : D → D → Option D
  | .lst ds, .int i => atI ds i
  | .tup ds, .int i => atI ds i
  | .ktup ds, .int i => atI ds i
  | .scr ns, .int i => (atI ns i).map D.int
  | .str z, .int i => (atI z.cps.toList i).map fun c => D.str ⟨#[c]⟩
  | .dicK kvs, d => (keyD d).bind fun k => lookK kvs k
  | .dicT kvs, d => (keysD d).bind fun k => lookT kvs k
  | _, _ => none
theorem RepL.atI {K : PySem.W.Frag} {S : Hp} {ds : List D} {vs : List V} {i : Int} {d : D} (r : RepL K Γ S ds vs) (h : L2.atI ds i = some d) : ∃ v, L2.atI vs i = some v ∧ Rep K Γ S d v := by
  unfold L2.atI at h ⊢
  rw [r.length]
  cases q : ixN ds.length i with
  | none => rw [q] at h; cases h
  | some j =>
    rw [q, Option.bind_some] at h
    rw [Option.bind_some]
    exact r.get h
def rIxD2 : R2 := fun x y H Q => ∃ a v, x = .ref a ∧ DGet H a y (some v) ∧ Q v H
theorem ix_dict (hu : X.A.units + 1 < cLine) : IxR X rIxD2 := by
  intro value slice pins s σ H x y v u Q I rx ry ⟨a, z, e, g, q⟩ hs
  subst e
  cases rx
  exact PyProof.Rows.tail_any (dict_typeIs I g) PySem.F.slot_dict_getitem.lookup (d_getItem hu I g ry fun w' s' I' rw' => ⟨z, H, I', rw', q⟩) hs
def rIxA (K : PySem.W.Frag) : R2 := fun x y H Q => rIxL K x y H Q ∨ ((rIxT K x y H Q ∨ rIxS x y H Q) ∨ rIxD2 x y H Q)
theorem ix_all (hu : X.A.units + 1 < cLine) : IxR X (rIxA X.K) := ix_list.or ((ix_tup.or ix_str).or (ix_dict hu))
theorem atI_map {α β : Type} (g : α → β) (l : List α) (i : Int) : L2.atI (l.map g) i = (L2.atI l i).map g := by
  unfold L2.atI
  rw [List.length_map]
  cases ixN l.length i with
  | none => rfl
  | some j => rw [Option.bind_some, Option.bind_some, List.getElem?_map]
theorem snd_ix {K : PySem.W.Frag} : SndR2 K Γ (rIxA K) opIx .sh := fun H0 S H ma mb a b d x y Q sh h0 ra rb e k => by
  have dk : ∀ {kvs : List (Key × D)} {c : Key}, keyD b = some c → lookK kvs c = some d → (∃ p vs, x = .ref p ∧ H p = some (.dK vs) ∧ RepK K Γ S kvs vs) → rIxA K x y H Q := fun {kvs c} hk hl ⟨p, vs, e1, h1, r1⟩ => by
    have h := valV_look c r1
    rw [hl] at h
    obtain ⟨v, e, rv⟩ := h
    exact .inr (.inr ⟨p, v, e1, e ▸ dget_k (kvs := kvs) (rb.full sh h0) hk h1, k.flat sh rv⟩)
  have dt : ∀ {kvs : List (List Key × D)} {c : List Key}, keysD b = some c → lookT kvs c = some d → (∃ p vs, x = .ref p ∧ H p = some (.dT vs) ∧ RepT K Γ S kvs vs) → rIxA K x y H Q := fun {kvs c} hk hl ⟨p, vs, e1, h1, r1⟩ => by
    have h := valV_lookT c r1
    rw [hl] at h
    obtain ⟨v, e, rv⟩ := h
    exact .inr (.inr ⟨p, v, e1, e ▸ dget_t (rb.full sh h0) hk h1, k.flat sh rv⟩)
  cases a with
  | lst ds =>
    cases b with
    | int i =>
      obtain ⟨p, vs, e1, h1, l1, r1⟩ := ra.lst sh h0
      obtain ⟨v, e2, r2⟩ := r1.atI e
      exact .inl ⟨p, vs, i, v, e1, rb.int h0, SqL.of h1, e2, k.flat sh r2⟩
    | _ => cases e
  | tup ds =>
    cases b with
    | int i =>
      obtain ⟨p, vs, e1, h1, l1, r1⟩ := ra.tup h0
      obtain ⟨v, e2, r2⟩ := r1.atI e
      exact .inr (.inl (.inl ⟨p, vs, i, v, e1, rb.int h0, SqT.of (sh _ _ h1), e2, k.flat sh r2⟩))
    | _ => cases e
  | ktup ds =>
    cases b with
    | int i =>
      obtain ⟨p, vs, e1, h1, l1, r1⟩ := ra.ktup h0
      obtain ⟨v, e2, r2⟩ := r1.atI e
      exact .inr (.inl (.inl ⟨p, vs, i, v, e1, rb.int h0, Same.sqt sh h1, e2, k.flat sh r2⟩))
    | _ => cases e
  | scr ns =>
    cases b with
    | int i =>
      obtain ⟨p, e1, h1, l1⟩ := ra.scr h0
      have e : (L2.atI ns i).map D.int = some d := e
      cases q : L2.atI ns i with
      | none => rw [q] at e; cases e
      | some n =>
        rw [q] at e; cases e
        exact .inl ⟨p, _, i, .int n, e1, rb.int h0, sh.seq h1, by rw [atI_map, q]; rfl, k.flat sh rfl⟩
    | _ => cases e
  | str z =>
    cases b with
    | int i =>
      have e : (L2.atI z.cps.toList i).map (fun c => D.str ⟨#[c]⟩) = some d := e
      cases q : L2.atI z.cps.toList i with
      | none => rw [q] at e; cases e
      | some n =>
        rw [q] at e; cases e
        exact .inr (.inl (.inr ⟨z, i, n, (ra.str h0).1, rb.int h0, (ra.str h0).2, q, k.flat sh ⟨rfl, by show 1 ≤ sizeLine; decide⟩⟩))
    | _ => cases e
  | dicK kvs =>
    have e : (keyD b).bind (fun k => lookK kvs k) = some d := by cases b <;> exact e
    cases q : keyD b with
    | none => rw [q] at e; cases e
    | some c => rw [q] at e; exact dk q e (ra.dicK sh h0)
  | dicT kvs =>
    have e : (keysD b).bind (fun k => lookT kvs k) = some d := by cases b <;> exact e
    cases q : keysD b with
    | none => rw [q] at e; cases e
    | some c => rw [q] at e; exact dt q e (ra.dicT sh h0)
  | _ => cases b <;> cases e
end
section
variable {X : Cx} {Γ : CM} {M : List Mode} {e a b c : Expr} {t ta tb tc : TE} {f g h : Ev} {m ma mb mc : Mode} {pos : Pos}
theorem de_ix (hu : X.A.units + 64 < cLine) (ha : DE Γ X M a ta f ma) (hb : DE Γ X M b tb g mb) (hs : PlainIx b := by exact fun _ _ => rfl) : DE Γ X M (.Subscript a b pos) (tOp (rIxA X.K) ta tb) (v2 opIx f g) .sh :=
  ⟨pe_ix (ix_all (by omega)) ha.pe hb.pe hs, snd_op snd_ix ha.snd hb.snd⟩
/-! ### slices -/
def SndO (K : PySem.W.Frag) (Γ : CM) (M : List Mode) (t : TO) (f : Env → Option (Option Int)) : Prop :=
  ∀ S0 H0 S H σ δ Q o, Wd K Γ S0 H0 S H σ M δ → f δ = some o → (∀ S' H', Ext S H S' H' → Q o H') → t σ H Q
structure DO (Γ : CM) (X : Cx) (M : List Mode) (e : Option Expr) (t : TO) (f : Env → Option (Option Int)) : Prop where
  po : PO X e t
  snd : SndO X.K Γ M t f
theorem do_none : DO Γ X M none tNoPart (fun _ => some none) := ⟨po_none, fun S0 H0 S H σ δ Q o w e k => by cases e; exact k S H (Ext.refl w.sH)⟩
def vPart (f : Ev) : Env → Option (Option Int) := fun δ => (f δ).bind fun d => match d with | .int i => some (some i) | _ => none
theorem do_some (ha : DE Γ X M e t f m) : DO Γ X M (some e) (tPart t) (vPart f) := ⟨po_some ha.pe, fun S0 H0 S H σ δ Q o w ef k => by
  unfold vPart at ef
  cases q : f δ with
  | none => rw [q] at ef; cases ef
  | some d =>
    rw [q, Option.bind_some] at ef
    cases d with
    | int i =>
      cases ef
      exact ha.snd S0 H0 S H σ δ _ _ w q fun v S' H' e1 r _ => ⟨i, r.int (w.mono e1).h0, k S' H' e1⟩
    | _ => cases ef⟩
def cutD {α : Type} (xs : List α) (lo hi : Option Int) : List α := (xs.drop (HT.sIx xs.length 0 lo)).take (HT.sIx xs.length xs.length hi - HT.sIx xs.length 0 lo)
def opSl : D → Option Int → Option Int → Option D
  | .lst ds, lo, hi => some (.lst (cutD ds lo hi))
  | .str z, lo, hi => some (.str ⟨(cutD z.cps.toList lo hi).toArray⟩)
  | .tup ds, lo, hi => if HT.sIx ds.length 0 lo = 0 ∧ HT.sIx ds.length ds.length hi = ds.length then none else some (.tup (cutD ds lo hi))
  | _, _, _ => none
def opSlL : D → Option Int → Option Int → Option D
  | .lst ds, lo, hi => some (.lst (cutD ds lo hi))
  | _, _, _ => none
def vSl (o : D → Option Int → Option Int → Option D) (f : Ev) (l u : Env → Option (Option Int)) : Ev := fun δ => (f δ).bind fun d => (l δ).bind fun lo => (u δ).bind fun hi => o d lo hi
theorem cutD_len {α : Type} (xs : List α) (lo hi : Option Int) : (cutD xs lo hi).length ≤ xs.length := by
  unfold cutD
  rw [List.length_take, List.length_drop]; omega
theorem RepL.cut {K : PySem.W.Frag} {S : Hp} {ds : List D} {vs : List V} (r : RepL K Γ S ds vs) (lo hi : Option Int) : RepL K Γ S (cutD ds lo hi) (cutV vs lo hi) := by
  unfold cutD cutV
  rw [r.length]
  exact (r.drop _).take _
def rSlAll (K : PySem.W.Frag) : V → Option Int → Option Int → Hp → VK → Prop := fun x lo hi H Q => rSlL K x lo hi H Q ∨ (rSlS x lo hi H Q ∨ rSlT K x lo hi H Q)
theorem snd_sl {K : PySem.W.Frag} {tl th : TO} {l u : Env → Option (Option Int)} {r : V → Option Int → Option Int → Hp → VK → Prop} {o : D → Option Int → Option Int → Option D}
    (ho : ∀ H0 S H ma a lo hi d x Q, Same S H → Same H0 H → RepM K Γ H0 S H ma a x → o a lo hi = some d → Kont K Γ H0 S H m d Q → r x lo hi H Q)
    (sa : SndE K Γ M ta f ma) (sl : SndO K Γ M tl l) (su : SndO K Γ M th u) : SndE K Γ M (tSl r ta tl th) (vSl o f l u) m := fun S0 H0 S H σ δ Q d w ef k => by
  unfold vSl at ef
  cases p : f δ with
  | none => rw [p] at ef; cases ef
  | some a =>
    cases q : l δ with
    | none => rw [p, q] at ef; cases ef
    | some lo =>
      cases z : u δ with
      | none => rw [p, q, z] at ef; cases ef
      | some hi =>
        rw [p, q, z] at ef
        simp only [Option.bind_some] at ef
        refine sa S0 H0 S H σ δ _ _ w p fun v S1 H1 e1 r1 _ => ?_
        refine sl S0 H0 S1 H1 σ δ _ _ (w.mono e1) q fun S2 H2 e2 => ?_
        refine su S0 H0 S2 H2 σ δ _ _ ((w.mono e1).mono e2) z fun S3 H3 e3 => ?_
        exact ho H0 S3 H3 ma a lo hi d v Q e3.sh (((w.mono e1).mono e2).mono e3).h0 ((r1.mono e2).mono e3) ef (k.ext ((e1.trans e2).trans e3))
theorem de_sl {lo hi : Option Expr} {tl th : TO} {l u : Env → Option (Option Int)} {p2 : Pos} (ha : DE Γ X M a ta f ma) (hl : DO Γ X M lo tl l) (hh : DO Γ X M hi th u) : DE Γ X M (.Subscript a (.Slice lo hi none p2) pos) (tSl (rSlAll X.K) ta tl th) (vSl opSl f l u) .sh :=
  ⟨pe_slice (sl_list.or (sl_str.or sl_tup)) ha.pe hl.po hh.po, snd_sl (fun H0 S H ma a lo hi d x Q sh h0 ra e k => by
    cases a with
    | lst ds =>
      cases e
      obtain ⟨p, vs, e1, h1, l1, r1⟩ := ra.lst sh h0
      exact .inl ⟨p, vs, e1, SqL.of h1, fun t ht => k.newL rfl sh (Nat.le_trans (cutD_len ..) l1) (r1.cut lo hi) ht⟩
    | str z =>
      cases e
      refine .inr (.inl ⟨z, (ra.str h0).1, (ra.str h0).2, k.flat sh ⟨?_, ?_⟩⟩)
      · have : z.cps.toList.length = z.length := by simp [Str.length]
        unfold cutS cutD
        rw [this]
      · refine Nat.le_trans ?_ (ra.str h0).2
        show ((cutD z.cps.toList lo hi).toArray).size ≤ z.cps.size
        rw [List.size_toArray]
        exact Nat.le_trans (cutD_len ..) (by simp)
    | tup ds =>
      have e : (if HT.sIx ds.length 0 lo = 0 ∧ HT.sIx ds.length ds.length hi = ds.length then none else some (D.tup (cutD ds lo hi))) = some d := e
      obtain ⟨p, vs, e1, h1, l1, r1⟩ := ra.tup h0
      split at e
      · cases e
      · rename_i c
        cases e
        exact .inr (.inr ⟨p, vs, e1, SqT.of (sh _ _ h1), by rw [r1.length]; exact c, fun t ht => k.newT sh (Nat.le_trans (cutD_len ..) l1) (r1.cut lo hi) ht⟩)
    | _ => cases e) ha.snd hl.snd hh.snd⟩
theorem de_slL {lo hi : Option Expr} {tl th : TO} {l u : Env → Option (Option Int)} {p2 : Pos} (ha : DE Γ X M a ta f ma) (hl : DO Γ X M lo tl l) (hh : DO Γ X M hi th u) : DE Γ X M (.Subscript a (.Slice lo hi none p2) pos) (tSl (rSlL X.K) ta tl th) (vSl opSlL f l u) .ow :=
  ⟨pe_slice sl_list ha.pe hl.po hh.po, snd_sl (fun H0 S H ma a lo hi d x Q sh h0 ra e k => by
    cases a with
    | lst ds =>
      cases e
      obtain ⟨p, vs, e1, h1, l1, r1⟩ := ra.lst sh h0
      exact ⟨p, vs, e1, SqL.of h1, fun t ht => k.newL rfl sh (Nat.le_trans (cutD_len ..) l1) (r1.cut lo hi) ht⟩
    | _ => cases e) ha.snd hl.snd hh.snd⟩
end
end Dl
/-! tests, displays, fields, calls, statements. -/
namespace Dl
open PySem L2
section
variable {X : Cx} {Γ : CM} {M : List Mode} {e a b c : Expr} {t ta tb tc : TE} {f g h : Ev} {m ma mb mc : Mode} {pos : Pos} {rest : List Expr} {tA tB' : TT} {p q : Env → Option Bool}
/-! ### tests -/
def bAnd (p q : Env → Option Bool) : Env → Option Bool := fun δ => (p δ).bind fun b => if b = true then q δ else some false
def bOr (p q : Env → Option Bool) : Env → Option Bool := fun δ => (p δ).bind fun b => if b = true then some true else q δ
def bNot (p : Env → Option Bool) : Env → Option Bool := fun δ => (p δ).map (!·)
theorem bind_some {α β : Type} {o : Option α} {k : α → Option β} {d : β} (h : o.bind k = some d) : ∃ a, o = some a ∧ k a = some d := by
  cases o with
  | none => cases h
  | some a => exact ⟨a, rfl, h⟩
theorem snd_and {K : PySem.W.Frag} (s : SndT K Γ M tA p) (u : SndT K Γ M tB' q) : SndT K Γ M (tAnd tA tB') (bAnd p q) := fun S0 H0 S H σ δ Q b w ef k => by
  obtain ⟨c, e1, e2⟩ := bind_some ef
  refine s S0 H0 S H σ δ _ c w e1 fun S1 H1 x1 => ?_
  cases c with
  | true => rw [if_pos rfl] at e2 ⊢; exact u S0 H0 S1 H1 σ δ Q b (w.mono x1) e2 fun S2 H2 x2 => k S2 H2 (x1.trans x2)
  | false => rw [if_neg Bool.false_ne_true] at e2 ⊢; cases e2; exact k S1 H1 x1
theorem snd_or {K : PySem.W.Frag} (s : SndT K Γ M tA p) (u : SndT K Γ M tB' q) : SndT K Γ M (tOr tA tB') (bOr p q) := fun S0 H0 S H σ δ Q b w ef k => by
  obtain ⟨c, e1, e2⟩ := bind_some ef
  refine s S0 H0 S H σ δ _ c w e1 fun S1 H1 x1 => ?_
  cases c with
  | false => rw [if_neg Bool.false_ne_true] at e2 ⊢; exact u S0 H0 S1 H1 σ δ Q b (w.mono x1) e2 fun S2 H2 x2 => k S2 H2 (x1.trans x2)
  | true => rw [if_pos rfl] at e2 ⊢; cases e2; exact k S1 H1 x1
theorem dw_and1 (h : DT Γ X M a tA p) : DW Γ X M (.BoolOp .And [a] pos) tA p := ⟨pw_and1 h.pt, h.snd⟩
theorem dw_or1 (h : DT Γ X M a tA p) : DW Γ X M (.BoolOp .Or [a] pos) tA p := ⟨pw_or1 h.pt, h.snd⟩
theorem dw_and (h : DT Γ X M a tA p) (h2 : DW Γ X M (.BoolOp .And (b :: rest) pos) tB' q) : DW Γ X M (.BoolOp .And (a :: b :: rest) pos) (tAnd tA tB') (bAnd p q) := ⟨pw_and h.pt h2.pw, snd_and h.snd h2.snd⟩
theorem dw_or (h : DT Γ X M a tA p) (h2 : DW Γ X M (.BoolOp .Or (b :: rest) pos) tB' q) : DW Γ X M (.BoolOp .Or (a :: b :: rest) pos) (tOr tA tB') (bOr p q) := ⟨pw_or h.pt h2.pw, snd_or h.snd h2.snd⟩
theorem DW.dt (h : DW Γ X M e tA p) : DT Γ X M e tA p := ⟨h.pw.pt, h.snd⟩
theorem dt_not (h : DT Γ X M a tA p) : DT Γ X M (.UnaryOp .Not a pos) (tNot tA) (bNot p) := ⟨pt_not h.pt, fun S0 H0 S H σ δ Q b w ef k => by
  unfold bNot at ef
  cases z : p δ with
  | none => rw [z] at ef; cases ef
  | some c => rw [z] at ef; cases ef; exact h.snd S0 H0 S H σ δ _ c w z fun S1 H1 x1 => k S1 H1 x1⟩
/-- .. as values (truths) -/
def vAnd (f g : Ev) : Ev := fun δ => (vTst f δ).bind fun b => if b = true then g δ else some (.bl false)
def vOr (f g : Ev) : Ev := fun δ => (vTst f δ).bind fun b => if b = true then some (.bl true) else g δ
def vNot (f : Ev) : Ev := fun δ => (vTst f δ).map fun b => .bl (!b)
theorem de_one {op} (h : DE Γ X M a t f m) (hm : okS m = true := by rfl) : DE Γ X M (.BoolOp op [a] pos) t f .sh := ⟨pe_one h.pe, h.snd.sh hm⟩
theorem de_and (ha : DE Γ X M a ta f ma) (hb : DE Γ X M (.BoolOp .And (b :: rest) pos) tb g .sh) : DE Γ X M (.BoolOp .And (a :: b :: rest) pos) (tAndV ta tb) (vAnd f g) .sh := ⟨pe_and ha.pe hb.pe, fun S0 H0 S H σ δ Q d w ef k => by
  obtain ⟨c, e1, e2⟩ := bind_some ef
  refine ha.snd S0 H0 S H σ δ _ _ w (vTst_some e1) fun v S1 H1 x1 r1 _ => ⟨c, r1.bl (w.mono x1).h0, ?_⟩
  cases c with
  | true => rw [if_pos rfl] at e2 ⊢; exact hb.snd S0 H0 S1 H1 σ δ Q d (w.mono x1) e2 (k.ext x1)
  | false => rw [if_neg Bool.false_ne_true] at e2 ⊢; cases e2; exact (k.ext x1).flat x1.sh rfl⟩
theorem de_or (ha : DE Γ X M a ta f ma) (hb : DE Γ X M (.BoolOp .Or (b :: rest) pos) tb g .sh) : DE Γ X M (.BoolOp .Or (a :: b :: rest) pos) (tOrV ta tb) (vOr f g) .sh := ⟨pe_or ha.pe hb.pe, fun S0 H0 S H σ δ Q d w ef k => by
  obtain ⟨c, e1, e2⟩ := bind_some ef
  refine ha.snd S0 H0 S H σ δ _ _ w (vTst_some e1) fun v S1 H1 x1 r1 _ => ⟨c, r1.bl (w.mono x1).h0, ?_⟩
  cases c with
  | false => rw [if_neg Bool.false_ne_true] at e2 ⊢; exact hb.snd S0 H0 S1 H1 σ δ Q d (w.mono x1) e2 (k.ext x1)
  | true => rw [if_pos rfl] at e2 ⊢; cases e2; exact (k.ext x1).flat x1.sh rfl⟩
theorem de_not (ha : DE Γ X M a ta f ma) : DE Γ X M (.UnaryOp .Not a pos) (tNotV ta) (vNot f) .sh := ⟨pe_not ha.pe, fun S0 H0 S H σ δ Q d w ef k => by
  unfold vNot at ef
  cases z : vTst f δ with
  | none => rw [z] at ef; cases ef
  | some c =>
    rw [z] at ef; cases ef
    exact ha.snd S0 H0 S H σ δ _ _ w (vTst_some z) fun v S1 H1 x1 r1 _ => ⟨c, r1.bl (w.mono x1).h0, (k.ext x1).flat x1.sh rfl⟩⟩
def vIf (p : Env → Option Bool) (f g : Ev) : Ev := fun δ => (p δ).bind fun b => if b = true then f δ else g δ
theorem de_ifExp (hc : DT Γ X M c tA p) (ha : DE Γ X M a ta f m) (hb : DE Γ X M b tb g m) : DE Γ X M (.IfExp c a b pos) (tIf tA ta tb) (vIf p f g) m := ⟨pe_ifExp hc.pt ha.pe hb.pe, fun S0 H0 S H σ δ Q d w ef k => by
  obtain ⟨c, e1, e2⟩ := bind_some ef
  refine hc.snd S0 H0 S H σ δ _ _ w e1 fun S1 H1 x1 => ?_
  cases c with
  | true => rw [if_pos rfl] at e2 ⊢; exact ha.snd S0 H0 S1 H1 σ δ Q d (w.mono x1) e2 (k.ext x1)
  | false => rw [if_neg Bool.false_ne_true] at e2 ⊢; exact hb.snd S0 H0 S1 H1 σ δ Q d (w.mono x1) e2 (k.ext x1)⟩
theorem DE.sh (h : DE Γ X M e t f m) (hm : okS m = true := by rfl) : DE Γ X M e t f .sh := ⟨h.pe, h.snd.sh hm⟩
/-! -a -/
def vNeg (f : Ev) : Ev := fun δ => (f δ).bind fun d => match d with | .int i => some (.int (-i)) | _ => none
theorem de_neg (ha : DE Γ X M a ta f ma) : DE Γ X M (.UnaryOp .USub a pos) (fun σ H Q => ta σ H fun x H1 => rU (fun i => .int (-i)) x H1 Q) (vNeg f) .sh := ⟨pe_un un_neg ha.pe, fun S0 H0 S H σ δ Q d w ef k => by
  obtain ⟨c, e1, e2⟩ := bind_some ef
  refine ha.snd S0 H0 S H σ δ _ _ w e1 fun v S1 H1 x1 r1 _ => ?_
  cases c with
  | int i => cases e2; exact ⟨i, r1.int (w.mono x1).h0, (k.ext x1).flat x1.sh rfl⟩
  | _ => cases e2⟩
end

/-! ### argument lists -/
def ArgM (K : PySem.W.Frag) (Γ : CM) (S H : Hp) (m : Mode) (d : D) (v : V) : Prop := match m with
  | .sh => Rep K Γ S d v
  | _ => Rep K Γ S d v ∨ ∃ a, v = .ref a ∧ TopAt K Γ S H a d
theorem ArgM.mono {K : PySem.W.Frag} {Γ : CM} {S H S' H' : Hp} {m : Mode} {d : D} {v : V} (e : Ext S H S' H') (r : ArgM K Γ S H m d v) : ArgM K Γ S' H' m d v := by
  cases m with
  | sh => exact Rep.mono e.ss r
  | _ =>
    rcases r with r | ⟨a, ev, t⟩
    · exact .inl (Rep.mono e.ss r)
    · exact .inr ⟨a, ev, t.mono e.ss fun _ q => e.hh _ _ q⟩
def ArgMs (K : PySem.W.Frag) (Γ : CM) (S H : Hp) : List Mode → List D → List V → Prop
  | [], ds, vs => ds = [] ∧ vs = []
  | m :: ms, ds, vs => ∃ d ds' v vs', ds = d :: ds' ∧ vs = v :: vs' ∧ ArgM K Γ S H m d v ∧ ArgMs K Γ S H ms ds' vs'
theorem ArgMs.mono {K : PySem.W.Frag} {Γ : CM} {S H S' H' : Hp} (e : Ext S H S' H') : ∀ {ms : List Mode} {ds : List D} {vs : List V}, ArgMs K Γ S H ms ds vs → ArgMs K Γ S' H' ms ds vs
  | [], _, _, h => h
  | m :: ms, _, _, ⟨d, ds', v, vs', e1, e2, r, t⟩ => ⟨d, ds', v, vs', e1, e2, r.mono e, ArgMs.mono e t⟩
theorem ArgMs.len {K : PySem.W.Frag} {Γ : CM} {S H : Hp} : ∀ {ms : List Mode} {ds : List D} {vs : List V}, ArgMs K Γ S H ms ds vs → vs.length = ms.length ∧ ds.length = ms.length
  | [], _, _, ⟨e, e'⟩ => by subst e e'; exact ⟨rfl, rfl⟩
  | m :: ms, _, _, ⟨d, ds', v, vs', e1, e2, r, t⟩ => by
    obtain ⟨h1, h2⟩ := ArgMs.len t
    subst e1 e2
    exact ⟨by rw [List.length_cons, List.length_cons, h1], by rw [List.length_cons, List.length_cons, h2]⟩
theorem ArgMs.all_sh {K : PySem.W.Frag} {Γ : CM} {S H : Hp} : ∀ {ms : List Mode} {ds : List D} {vs : List V}, ms.all (· == .sh) = true → ArgMs K Γ S H ms ds vs → RepL K Γ S ds vs
  | [], _, _, _, ⟨e, e'⟩ => by subst e e'; rfl
  | m :: ms, _, _, h, ⟨d, ds', v, vs', e1, e2, r, t⟩ => by
    subst e1 e2
    rw [List.all_cons, Bool.and_eq_true] at h
    have em : m = .sh := by simpa using h.1
    subst em
    exact ⟨v, vs', rfl, r, ArgMs.all_sh h.2 t⟩
def SndAr (K : PySem.W.Frag) (Γ : CM) (M : List Mode) (t : TA) (f : Env → Option (List D)) (ms : List Mode) : Prop :=
  ∀ S0 H0 S H σ δ Q ds, Wd K Γ S0 H0 S H σ M δ → f δ = some ds → (∀ vs S' H', Ext S H S' H' → ArgMs K Γ S' H' ms ds vs → Q vs H') → t σ H Q
structure DAr (Γ : CM) (X : Cx) (M : List Mode) (es : List Expr) (t : TA) (f : Env → Option (List D)) (ms : List Mode) : Prop where
  pa : PA X es t
  snd : SndAr X.K Γ M t f ms
def leM : Mode → Mode → Bool
  | m, .sh => okS m
  | _, .bo => true
  | _, _ => false
section
variable {X : Cx} {Γ : CM} {M : List Mode} {e a b c : Expr} {es : List Expr} {t ta tb tc : TE} {tr : TA} {f g h : Ev} {fr : Env → Option (List D)} {m m' ma mb mc : Mode} {ms : List Mode} {pos : Pos}
def aNil : Env → Option (List D) := fun _ => some []
def aCons (f : Ev) (g : Env → Option (List D)) : Env → Option (List D) := fun δ => (f δ).bind fun d => (g δ).map (d :: ·)
theorem da_nil : DAr Γ X M [] tNil aNil [] := ⟨pa_nil, fun S0 H0 S H σ δ Q ds w ef k => by cases ef; exact k [] S H (Ext.refl w.sH) ⟨rfl, rfl⟩⟩
theorem da_cons (ha : DE Γ X M e t f m) (hr : DAr Γ X M es tr fr ms) (hm : leM m m' = true := by rfl) (hs : starEach (e :: es) X.env = (false, eval e X.env) :: starEach es X.env := by rfl) : DAr Γ X M (e :: es) (tCons t tr) (aCons f fr) (m' :: ms) :=
  ⟨pa_cons ha.pe hr.pa hs, fun S0 H0 S H σ δ Q ds w ef k => by
    obtain ⟨d, e1, e2⟩ := bind_some ef
    cases z : fr δ with
    | none => rw [z] at e2; cases e2
    | some dr =>
      rw [z] at e2; cases e2
      have go : ∀ v S1 H1, Ext S H S1 H1 → ArgM X.K Γ S1 H1 m' d v → tr σ H1 fun xs H2 => Q (v :: xs) H2 := fun v S1 H1 x1 r1 =>
        hr.snd S0 H0 S1 H1 σ δ _ dr (w.mono x1) z fun vs S2 H2 x2 r2 => k (v :: vs) S2 H2 (x1.trans x2) ⟨d, dr, v, vs, rfl, rfl, r1.mono x2, r2⟩
      cases m' with
      | sh => exact (ha.snd.sh hm) S0 H0 S H σ δ _ d w e1 fun v S1 H1 x1 r1 _ => go v S1 H1 x1 r1
      | bo => exact ha.snd S0 H0 S H σ δ _ d w e1 fun v S1 H1 x1 r1 _ => go v S1 H1 x1 (r1.rd (w.mono x1).h0)
      | _ => cases m <;> cases hm⟩
/-! ### displays -/
def vLst (f : Env → Option (List D)) : Ev := fun δ => (f δ).bind fun ds => if ds.length ≤ 1000 then some (.lst ds) else none
def vTup (f : Env → Option (List D)) : Ev := fun δ => (f δ).bind fun ds => if ds.length ≤ 1000 then some (.tup ds) else none
theorem le1000 {n : Nat} (h : n ≤ 1000) : n ≤ sizeLine := Nat.le_of_lt (small1000 h)
theorem de_lst (ha : DAr Γ X M es tr fr ms) (hm : ms.all (· == .sh) = true := by rfl) : DE Γ X M (.List es pos) (tLst tr) (vLst fr) .ow := ⟨pe_lst ha.pa, fun S0 H0 S H σ δ Q d w ef k => by
  obtain ⟨ds, e1, e2⟩ := bind_some ef
  obtain ⟨hl, rfl⟩ := ite_some e2
  refine ha.snd S0 H0 S H σ δ _ ds w e1 fun vs S1 H1 x1 r1 => ⟨by rw [(r1.len).1, ← (r1.len).2]; exact le1000 hl, fun p hp => ?_⟩
  exact (k.ext x1).newL rfl x1.sh (le1000 hl) (ArgMs.all_sh hm r1) hp⟩
theorem de_tup {x1} (ha : DAr Γ X M es tr fr ms) (hm : ms.all (· == .sh) = true := by rfl) : DE Γ X M (.Tuple es x1 pos) (tTup tr) (vTup fr) .sh := ⟨pe_tup ha.pa, fun S0 H0 S H σ δ Q d w ef k => by
  obtain ⟨ds, e1, e2⟩ := bind_some ef
  obtain ⟨hl, rfl⟩ := ite_some e2
  refine ha.snd S0 H0 S H σ δ _ ds w e1 fun vs S1 H1 x1 r1 => ⟨by rw [(r1.len).1, ← (r1.len).2]; exact le1000 hl, fun p hp => ?_⟩
  exact (k.ext x1).newT x1.sh (le1000 hl) (ArgMs.all_sh hm r1) hp⟩
/-! ### fields -/
def vFld (x : Str) (f : Ev) : Ev := fun δ => (f δ).bind fun d => match d with | .ins _ fs => fs.lookup x | _ => none
theorem RepF.look {K : PySem.W.Frag} {S : Hp} {x : Str} : ∀ {fs : List (Str × D)} {ws : List (Str × V)} {d : D}, RepF K Γ S fs ws → fs.lookup x = some d → ∃ v, ws.lookup x = some v ∧ Rep K Γ S d v
  | [], _, _, _, h => by cases h
  | (n, y) :: fs, _, d, ⟨v, ws, e, r, t⟩, h => by
    subst e
    rw [List.lookup_cons] at h ⊢
    cases q : x == n with
    | true => rw [q] at h; cases h; exact ⟨v, rfl, r⟩
    | false => rw [q] at h; exact RepF.look t h
/-- what is told of the classes: each class in Γ, its fields' names free -/
structure ClsOk (K : PySem.W.Frag) (Γ : CM) (c : Str) (x : Str) : Prop where
  ok : ∀ C, Γ c = some C → Cls K C ∧ NoAttr K C x
theorem de_fld {x : Str} (T : ∀ c, ClsOk X.K Γ c x) (ha : DE Γ X M e t f m) (hb : attributeBase e x X.env (eval e X.env) = eval e X.env := by rfl) : DE Γ X M (.Attribute e x pos) (tFld X.K t x) (vFld x f) .sh := ⟨pe_fld ha.pe hb, fun S0 H0 S H σ δ Q d w ef k => by
  obtain ⟨o, e1, e2⟩ := bind_some ef
  cases o with
  | ins c fs =>
    refine ha.snd S0 H0 S H σ δ _ _ w e1 fun v S1 H1 x1 r1 _ => ?_
    obtain ⟨a, C, dx, ws, ev, g, h, r⟩ := r1.ins (w.mono x1).h0
    obtain ⟨z, ez, rz⟩ := r.look e2
    exact ⟨a, C, dx, ws, z, ev, x1.sh _ _ h, ((T c).ok C g).1, ((T c).ok C g).2, ez, (k.ext x1).flat x1.sh rz⟩
  | _ => cases e2⟩
/-! ### calls by values -/
def SndC (K : PySem.W.Frag) (Γ : CM) (r : List V → Hp → VK → Prop) (op : List D → Option D) (ms : List Mode) (m : Mode) : Prop :=
  ∀ S H ds vs d Q, Same S H → ArgMs K Γ S H ms ds vs → op ds = some d → Kont K Γ H S H m d Q → r vs H Q
structure CD (Γ : CM) (X : Cx) (f : Value) (r : List V → Hp → VK → Prop) (op : List D → Option D) (ms : List Mode) (m : Mode) : Prop where
  call : CallR X f r
  snd : SndC X.K Γ r op ms m
def vC1 (op : List D → Option D) (f : Env → Option (List D)) : Ev := fun δ => (f δ).bind op
theorem Kont.h0 {K : PySem.W.Frag} {S H H1 H2 : Hp} {d : D} {Q : VK} (k : Kont K Γ H1 S H m d Q) (hm : okS m = true) : Kont K Γ H2 S H m d Q := fun v S' H' e r f => by
  cases m with
  | sh => exact k v S' H' e r f
  | ow => exact k v S' H' e r f
  | _ => cases hm
theorem snd_c1 {K : PySem.W.Frag} {r : List V → Hp → VK → Prop} {op : List D → Option D} (hm : okS m = true) (o : SndC K Γ r op ms m) (s : SndAr K Γ M tr fr ms) : SndE K Γ M (tCB r tr) (vC1 op fr) m := fun S0 H0 S H σ δ Q d w ef k => by
  obtain ⟨ds, e1, e2⟩ := bind_some ef
  exact s S0 H0 S H σ δ _ ds w e1 fun vs S1 H1 x1 r1 => o S1 H1 ds vs d Q x1.sh r1 e2 ((k.ext x1).h0 hm)
theorem de_callB {x : Str} {p : Pos} {id : String} {r : List V → Hp → VK → Prop} {op : List D → Option D} (hc : CD Γ X (.builtin id) r op ms m) (hg : Gl X x) (hn : X.mg x = none) (hv : bootBuiltins x = some (.builtin id)) (ha : DAr Γ X M (e :: es) tr fr ms) (hm : okS m = true := by rfl)
    (h1 : x ≠ ("__name__" : Str) := by decide) (h2 : (x == ("__debug__" : Str)) = false := by decide) (h3 : starEach (e :: es) X.env = (false, eval e X.env) :: starEach es X.env := by rfl) (h4 : (backTo pos (starEach es X.env)).any (·.1) = false := by rfl) :
    DE Γ X M (.Call (.Name x p) (e :: es) [] pos) (tCB r tr) (vC1 op fr) m := ⟨pe_callB hc.call hg hn hv ha.pa h1 h2 h3 h4, snd_c1 hm hc.snd ha.snd⟩
theorem de_callTy {x : Str} {p : Pos} {T : String} {r : List V → Hp → VK → Prop} {op : List D → Option D} (hc : CD Γ X (.type T) r op ms m) (hg : Gl X x) (hn : X.mg x = none) (hv : bootBuiltins x = some (.type T)) (ha : DAr Γ X M (e :: es) tr fr ms) (hm : okS m = true := by rfl)
    (h1 : x ≠ ("__name__" : Str) := by decide) (h2 : (x == ("__debug__" : Str)) = false := by decide) (h3 : starEach (e :: es) X.env = (false, eval e X.env) :: starEach es X.env := by rfl) (h4 : (backTo pos (starEach es X.env)).any (·.1) = false := by rfl) :
    DE Γ X M (.Call (.Name x p) (e :: es) [] pos) (tCB r tr) (vC1 op fr) m := ⟨pe_callTy hc.call hg hn hv ha.pa h1 h2 h3 h4, snd_c1 hm hc.snd ha.snd⟩

/-! ### calls of the program's defs -/
/-- a def's promise by its denotation -/
def spD (K : PySem.W.Frag) (Γ : CM) (pm : List Mode) (rm : Mode) (den : List D → Option D) : Sp := fun vs H Q _ =>
  ∃ S ds r, Same S H ∧ ArgMs K Γ S H pm ds vs ∧ den ds = some r ∧ Kont K Γ H S H rm r Q
theorem snd_call {K : PySem.W.Frag} {pm : List Mode} {den : List D → Option D} {E : XK} (hm : okS m = true) (s : SndAr K Γ M tr fr pm) : SndE K Γ M (tCall (spD K Γ pm m den) [] E tr) (vC1 den fr) m := fun S0 H0 S H σ δ Q d w ef k => by
  obtain ⟨ds, e1, e2⟩ := bind_some ef
  refine s S0 H0 S H σ δ _ ds w e1 fun vs S1 H1 x1 r1 => ?_
  show spD K Γ pm m den (vs ++ []) H1 Q E
  rw [List.append_nil]
  exact ⟨S1, ds, d, x1.sh, r1, e2, (k.ext x1).h0 hm⟩
theorem de_call {fa : Addr} {fd : FuncData} {ps : List Str} {k : Nat} {x : Str} {p : Pos} {pm : List Mode} {den : List D → Option D} (F : FnOk X.prog X.w X.K X.mg X.base CX0 k fa fd ps (spD X.K Γ pm m den)) (hr : Room k X.A) (hg : Gl X x) (hx : X.mg x = some (.ref fa)) (hk : PySem.W.keepIn X.K (.ref fa) = true) (hb : Binds X.K fd ps [])
    (ha : DAr Γ X M (e :: es) tr fr pm) (hm : okS m = true := by rfl) (h2 : (x == ("__debug__" : Str)) = false := by decide) (h3 : starEach (e :: es) X.env = (false, eval e X.env) :: starEach es X.env := by rfl) (h4 : (backTo pos (starEach es X.env)).any (·.1) = false := by rfl) :
    DE Γ X M (.Call (.Name x p) (e :: es) [] pos) (tCall (spD X.K Γ pm m den) [] E0 tr) (vC1 den fr) m := ⟨pe_call F hr hg hx hk hb .nil pass0 ha.pa h2 h3 h4, snd_call hm ha.snd⟩
end

/-! ### statements -/
inductive Out where
  | nx (δ : Env) | rt (d : D) | ex (c : Str) (fs : List (Str × D))
abbrev Sv := Env → Option Out
def RepX (K : PySem.W.Frag) (Γ : CM) (S H : Hp) (c : Str) (fs : List (Str × D)) (cls : Value) (dd : Option Addr) : Prop :=
  ∃ C, Γ c = some C ∧ cls = .ref C ∧ ((fs = [] ∧ dd = none) ∨ ∃ d ws, dd = some d ∧ H d = some (.xd ws) ∧ RepF K Γ S fs ws)
def Fin (K : PySem.W.Frag) (Γ : CM) (S0 H0 S : Hp) (E : XK) (rm : Mode) (M' : List Mode) : Out → Ends → Prop
  | .nx δ', Dn => ∀ S' H' σ', Same S S' → Wd K Γ S0 H0 S' H' σ' M' δ' → Dn.nx σ' H'
  | .rt d, Dn => ∀ v S' H', Ext S0 H0 S' H' → RepM K Γ H0 S' H' rm d v → (rm = .ow → ∀ a, v = .ref a → H0 a = none) → Dn.rt v H'
  | .ex c fs, _ => ∀ cls dd S' H', Ext S0 H0 S' H' → RepX K Γ S' H' c fs cls dd → E cls dd H'
def SndS (K : PySem.W.Frag) (Γ : CM) (E : XK) (rm : Mode) (M : List Mode) (t : TS) (f : Sv) (M' : List Mode) : Prop :=
  ∀ S0 H0 S H σ δ Dn o, Wd K Γ S0 H0 S H σ M δ → f δ = some o → Fin K Γ S0 H0 S E rm M' o Dn → t Dn σ H
structure DS (Γ : CM) (X : Cx) (E : XK) (rm : Mode) (M : List Mode) (st : Stmt) (t : TS) (f : Sv) (M' : List Mode) : Prop where
  ps : PS X st t
  snd : SndS X.K Γ E rm M t f M'
structure DSs (Γ : CM) (X : Cx) (E : XK) (rm : Mode) (M : List Mode) (st : List Stmt) (t : TS) (f : Sv) (M' : List Mode) : Prop where
  pss : PSs X st t
  snd : SndS X.K Γ E rm M t f M'
section
variable {X : Cx} {Γ : CM} {E : XK} {rm : Mode} {M M1 M2 : List Mode} {st : Stmt} {rest body els : List Stmt} {e a b c : Expr} {te : TE} {tc : TT} {t u : TS} {f : Ev} {p : Env → Option Bool} {s s' : Sv} {m : Mode} {pos : Pos}
theorem Fin.ss {K : PySem.W.Frag} {S0 H0 S S1 : Hp} {M' : List Mode} {o : Out} {Dn : Ends} (h : Fin K Γ S0 H0 S E rm M' o Dn) (ss : Same S S1) : Fin K Γ S0 H0 S1 E rm M' o Dn := by
  cases o with
  | nx δ => exact fun S' H' σ' s1 w => h S' H' σ' (ss.trans s1) w
  | rt d => exact h
  | ex c fs => exact h
def sNext : Sv := fun δ => some (.nx δ)
def sSeq (s s' : Sv) : Sv := fun δ => (s δ).bind fun o => match o with | .nx δ' => s' δ' | o => some o
theorem snd_seq {K : PySem.W.Frag} (h1 : SndS K Γ E rm M t s M1) (h2 : SndS K Γ E rm M1 u s' M2) : SndS K Γ E rm M (tSeq t u) (sSeq s s') M2 := fun S0 H0 S H σ δ Dn o w ef k => by
  obtain ⟨o1, e1, e2⟩ := bind_some ef
  refine h1 S0 H0 S H σ δ _ o1 w e1 ?_
  cases o1 with
  | nx δ1 => exact fun S1 H1 σ1 s1 w1 => h2 S0 H0 S1 H1 σ1 δ1 Dn o w1 e2 (k.ss s1)
  | rt d => cases e2; exact k
  | ex c fs => cases e2; exact k
theorem dss_nil : DSs Γ X E rm M [] tNext sNext M := ⟨pss_nil, fun S0 H0 S H σ δ Dn o w ef k => by cases ef; exact k S H σ (Same.refl _) w⟩
theorem dss_cons (h1 : DS Γ X E rm M st t s M1) (h2 : DSs Γ X E rm M1 rest u s' M2) : DSs Γ X E rm M (st :: rest) (tSeq t u) (sSeq s s') M2 := ⟨pss_cons h1.ps h2.pss, snd_seq h1.snd h2.snd⟩
theorem dss_one (h1 : DS Γ X E rm M st t s M1) : DSs Γ X E rm M [st] t s M1 := ⟨pss_one h1.ps, h1.snd⟩
/-- an owned slot becomes shared -/
theorem dss_freeze (i : Nat) (h : DSs Γ X E rm M1 rest u s' M2) (he : M.set i .sh = M1 := by rfl) (hi : i < M.length := by decide) (hm : md M i = .ow := by rfl) : DSs Γ X E rm M rest u s' M2 := ⟨h.pss, fun S0 H0 S H σ δ Dn o w ef k => by
  subst he
  obtain ⟨S1, ss, w1⟩ := w.freeze hi hm
  exact h.snd S0 H0 S1 H σ δ Dn o w1 ef (k.ss ss)⟩
/-- .. at the end -/
theorem DSs.frozen (i : Nat) (h : DSs Γ X E rm M rest u s' M2) (he : M2.set i .sh = M1 := by rfl) (hi : i < M2.length := by decide) (hm : md M2 i = .ow := by rfl) : DSs Γ X E rm M rest u s' M1 := ⟨h.pss, fun S0 H0 S H σ δ Dn o w ef k => by
  subst he
  refine h.snd S0 H0 S H σ δ Dn o w ef ?_
  cases o with
  | nx δ1 => exact fun S1 H1 σ1 s1 w1 => let ⟨S2, s2, w2⟩ := w1.freeze hi hm; k S2 H1 σ1 (s1.trans s2) w2
  | rt d => exact k
  | ex c fs => exact k⟩
def sSet (i : Nat) (f : Ev) : Sv := fun δ => (f δ).map fun d => .nx (δ.set i (some d))
theorem snd_set {K : PySem.W.Frag} {i : Nat} (hi : i < M.length) (hm : okS m = true ∨ m = .bo) (h : SndE K Γ M te f m) : SndS K Γ E rm M (tAsg te (gName i)) (sSet i f) (M.set i m) := fun S0 H0 S H σ δ Dn o w ef k => by
  unfold sSet at ef
  cases q : f δ with
  | none => rw [q] at ef; cases ef
  | some d =>
    rw [q] at ef; cases ef
    refine h S0 H0 S H σ δ _ d w q fun v S1 H1 x1 r1 fr => ?_
    refine k S1 H1 (σ.set i (some v)) x1.ss ((w.mono x1).store hi ?_ r1 (fun z a ev => w.ext.hh.free (fr z a ev)) fun z a ev j dj hj mj hs => ?_)
    · rcases hm with hm | hm
      · cases m <;> first | exact .inl rfl | exact .inr (.inr rfl) | cases hm
      · exact .inr (.inl hm)
    · obtain ⟨v', hv', rj⟩ := w.slot j dj hj
      rw [hv'] at hs
      have e : v' = .ref a := Option.some.inj (Option.some.inj hs)
      rw [mj] at rj
      obtain ⟨a', e', _, tj⟩ := rj
      obtain ⟨oj, hoj⟩ := tj.there
      rw [e] at e'
      cases e'
      rw [fr z a ev] at hoj
      cases hoj
theorem ds_set {i : Nat} {x : Str} {pos' : Pos} (hN : X.N.Nodup) (he : DE Γ X M e te f m) (hM : M.set i m = M1 := by rfl) (hi : X.N[i]? = some x := by rfl) (hx : Loc X.env.scope x := by first | exact Or.inl rfl | exact Or.inr rfl) (hl : i < M.length := by decide) (hm : okS m = true ∨ m = .bo := by first | exact Or.inl rfl | exact Or.inr rfl) (hs : swapsWith e (some (.Name x pos')) pos.line X.env = pure false := by rfl) (hf : X.fn x = true ∨ X.env.scope.names.lookup x = some .local := by first | exact .inl rfl | exact .inr rfl | assumption) :
    DS Γ X E rm M (.Assign [.Name x pos'] e pos) (tAsg te (gName i)) (sSet i f) M1 := ⟨ps_set hN hi hx he.pe hs hf, hM ▸ snd_set hl hm he.snd⟩
def sRet (f : Ev) : Sv := fun δ => (f δ).map .rt
theorem ds_ret (he : DE Γ X M e te f rm) : DS Γ X E rm M (.Return (some e) pos) (tRet te) (sRet f) M1 := ⟨ps_ret he.pe, fun S0 H0 S H σ δ Dn o w ef k => by
  unfold sRet at ef
  cases q : f δ with
  | none => rw [q] at ef; cases ef
  | some d =>
    rw [q] at ef; cases ef
    exact he.snd S0 H0 S H σ δ _ d w q fun v S1 H1 x1 r1 fr => k v S1 H1 (w.ext.trans x1) r1 fun z a ev => w.ext.hh.free (fr z a ev)⟩
/-- an owned name is handed back -/
theorem ds_retO {i : Nat} {x : Str} {p' : Pos} (hM : md M i = .ow := by rfl) (hN : X.N[i]? = some x := by rfl) (hv : Vis X.env.scope x := by first | exact Or.inl rfl | exact Or.inr (Or.inl rfl) | exact Or.inr (Or.inr rfl)) (hd : (x == ("__debug__" : Str)) = false := by decide) (hcd : (x == ("__classdict__" : Str)) = false := by decide) :
    DS Γ X E .ow M (.Return (some (.Name x p')) pos) (tRet (tVar i)) (sRet (vVar i)) M1 := ⟨ps_ret (pe_var hN hv hd hcd), fun S0 H0 S H σ δ Dn o w ef k => by
  unfold sRet at ef
  cases q : vVar i δ with
  | none => rw [q] at ef; cases ef
  | some d =>
    rw [q] at ef; cases ef
    have e : δ[i]? = some (some d) := by
      unfold vVar at q
      cases z : δ[i]? with
      | none => rw [z] at q; cases q
      | some o => rw [z] at q; cases o with
        | none => cases q
        | some x => cases q; rfl
    obtain ⟨v, hv, r⟩ := w.slot i d e
    rw [hM] at r
    exact ⟨v, hv, k v S H w.ext r fun _ a ev => w.own i d a e hM (by rw [← ev]; exact hv)⟩⟩
def sRetN : Sv := fun _ => some (.rt .non)
theorem ds_retN : DS Γ X E .sh M (.Return none pos) tRetN sRetN M1 := ⟨ps_retN, fun S0 H0 S H σ δ Dn o w ef k => by
  cases ef
  exact k .non S H w.ext rfl fun z => by cases z⟩
def sIf (p : Env → Option Bool) (s s' : Sv) : Sv := fun δ => (p δ).bind fun b => if b = true then s δ else s' δ
theorem ds_if (hc : DT Γ X M c tc p) (ha : DSs Γ X E rm M body t s M1) (hb : DSs Γ X E rm M els u s' M1) : DS Γ X E rm M (.If c body els pos) (tIfS tc t u) (sIf p s s') M1 := ⟨ps_if hc.pt ha.pss hb.pss, fun S0 H0 S H σ δ Dn o w ef k => by
  obtain ⟨b, e1, e2⟩ := bind_some ef
  refine hc.snd S0 H0 S H σ δ _ b w e1 fun S1 H1 x1 => ?_
  cases b with
  | true => rw [if_pos rfl] at e2 ⊢; exact ha.snd S0 H0 S1 H1 σ δ Dn o (w.mono x1) e2 (k.ss x1.ss)
  | false => rw [if_neg Bool.false_ne_true] at e2 ⊢; exact hb.snd S0 H0 S1 H1 σ δ Dn o (w.mono x1) e2 (k.ss x1.ss)⟩
/-- a block that always hands back (or raises) may be said to end in any modes -/
theorem DSs.any (h : DSs Γ X E rm M rest u s' M2) (hn : ∀ δ δ', s' δ ≠ some (.nx δ')) : DSs Γ X E rm M rest u s' M1 := ⟨h.pss, fun S0 H0 S H σ δ Dn o w ef k => by
  refine h.snd S0 H0 S H σ δ Dn o w ef ?_
  cases o with
  | nx δ1 => exact (hn _ _ ef).elim
  | rt d => exact k
  | ex c fs => exact k⟩
/-- an expression alone: its value is dropped -/
def sExpr (f : Ev) : Sv := fun δ => (f δ).map fun _ => .nx δ
theorem ds_expr (he : DE Γ X M e te f m) (hs : swapsWith e none pos.line X.env = pure false := by rfl) : DS Γ X E rm M (.Expr e pos) (tDrop te) (sExpr f) M := ⟨ps_expr he.pe hs, fun S0 H0 S H σ δ Dn o w ef k => by
  unfold sExpr at ef
  cases q : f δ with
  | none => rw [q] at ef; cases ef
  | some d =>
    rw [q] at ef; cases ef
    exact he.snd S0 H0 S H σ δ _ d w q fun v S1 H1 x1 r1 fr => k S1 H1 σ x1.ss (w.mono x1)⟩
end
end Dl
/-! targets, what is walked, for, while, comprehensions. -/
namespace Dl
open PySem L2
/-! ### targets -/
abbrev Hv := D → Env → Option Env
def SndG (K : PySem.W.Frag) (Γ : CM) (M : List Mode) (g : TG) (h : Hv) (M1 : List Mode) (ws : List Nat) : Prop :=
  ∀ S0 H0 S H σ δ v d Q δ1, Wd K Γ S0 H0 S H σ M δ → Rep K Γ S d v → h d δ = some δ1 → (∀ σ', Wd K Γ S0 H0 S H σ' M1 δ1 → (∀ vs, (∀ i ∈ ws, i ∈ vs) → wipe σ' vs = wipe σ vs) → Q σ' H) → g v σ H Q
structure DG (Γ : CM) (X : Cx) (M : List Mode) (tg : Expr) (g : TG) (h : Hv) (M1 : List Mode) (ws : List Nat) : Prop where
  pg : PG X tg g
  snd : SndG X.K Γ M g h M1 ws
def SndGs (K : PySem.W.Frag) (Γ : CM) (M : List Mode) (g : TGs) (h : List D → Env → Option Env) (M1 : List Mode) (ws : List Nat) : Prop :=
  ∀ S0 H0 S H σ δ vs ds Q δ1, Wd K Γ S0 H0 S H σ M δ → RepL K Γ S ds vs → h ds δ = some δ1 → (∀ σ', Wd K Γ S0 H0 S H σ' M1 δ1 → (∀ vs, (∀ i ∈ ws, i ∈ vs) → wipe σ' vs = wipe σ vs) → Q σ' H) → g vs σ H Q
structure DGs (Γ : CM) (X : Cx) (M : List Mode) (tg : List Expr) (g : TGs) (h : List D → Env → Option Env) (M1 : List Mode) (ws : List Nat) : Prop where
  pgs : PGs X tg g
  snd : SndGs X.K Γ M g h M1 ws
theorem wipe_get (σ : St) : ∀ (vs : List Nat) (j : Nat), (wipe σ vs)[j]? = if j ∈ vs ∧ j < σ.length then some none else σ[j]?
  | [], j => by rw [if_neg (by simp)]; rfl
  | v :: vs, j => by
    unfold wipe
    by_cases hv : v = j
    · subst hv
      by_cases hl : v < σ.length
      · rw [List.getElem?_set_self (by rw [wipe_length]; exact hl), if_pos ⟨by simp, hl⟩]
      · rw [List.getElem?_eq_none (by rw [List.length_set, wipe_length]; omega), if_neg (fun z => hl z.2), List.getElem?_eq_none (by omega)]
    · rw [List.getElem?_set_ne hv, wipe_get σ vs j]
      by_cases hj : j ∈ vs ∧ j < σ.length
      · rw [if_pos hj, if_pos ⟨List.mem_cons_of_mem _ hj.1, hj.2⟩]
      · rw [if_neg hj, if_neg (fun z => hj ⟨(List.mem_cons.mp z.1).resolve_left (fun e => hv e.symm), z.2⟩)]
theorem wipe_set {σ : St} {i : Nat} {o : Option V} {vs : List Nat} (h : i ∈ vs) : wipe (σ.set i o) vs = wipe σ vs := by
  apply List.ext_getElem?
  intro j
  rw [wipe_get, wipe_get, List.length_set]
  by_cases hj : j ∈ vs ∧ j < σ.length
  · rw [if_pos hj, if_pos hj]
  · rw [if_neg hj, if_neg hj]
    by_cases e : i = j
    · subst e
      have hl : ¬ i < σ.length := fun z => hj ⟨h, z⟩
      rw [List.getElem?_eq_none (by rw [List.length_set]; omega), List.getElem?_eq_none (by omega)]
    · rw [List.getElem?_set_ne e]
theorem wipe_wipe (σ : St) (vs : List Nat) : wipe (wipe σ vs) vs = wipe σ vs := by
  apply List.ext_getElem?
  intro j
  rw [wipe_get, wipe_get, wipe_length]
  by_cases hj : j ∈ vs ∧ j < σ.length
  · rw [if_pos hj, if_pos hj]
  · rw [if_neg hj, if_neg hj]
section
variable {X : Cx} {Γ : CM} {M M1 M2 : List Mode} {tg e a b : Expr} {es : List Expr} {g : TG} {gs : TGs} {h : Hv} {hs : List D → Env → Option Env} {ws ws' : List Nat} {pos : Pos} {K : PySem.W.Frag}
def hName (i : Nat) : Hv := fun d δ => some (δ.set i (some d))
theorem snd_name {i : Nat} (hl : i < M.length) : SndG K Γ M (gName i) (hName i) (M.set i .sh) [i] := fun S0 H0 S H σ δ v d Q δ1 w r e k => by
  cases e
  exact k _ (w.store hl (.inl rfl) r (fun z => by cases z) fun z => by cases z) fun vs hv => wipe_set (hv i (by simp))
theorem dg_name {i : Nat} {x : Str} (hN : X.N.Nodup) (hM : M.set i .sh = M1 := by rfl) (hi : X.N[i]? = some x := by rfl) (hx : Loc X.env.scope x := by first | exact Or.inl rfl | exact Or.inr rfl) (hl : i < M.length := by decide) (hf : X.fn x = true ∨ X.env.scope.names.lookup x = some .local := by first | exact .inl rfl | exact .inr rfl | assumption) :
    DG Γ X M (.Name x pos) (gName i) (hName i) M1 [i] := ⟨pg_name hN hi hx hf, hM ▸ snd_name hl⟩
def hNil : List D → Env → Option Env := fun ds δ => match ds with | [] => some δ | _ => none
def hCons (h : Hv) (hs : List D → Env → Option Env) : List D → Env → Option Env := fun ds δ => match ds with | d :: ds => (h d δ).bind (hs ds) | [] => none
theorem dgs_nil : DGs Γ X M [] gNil hNil M [] := ⟨pgs_nil, fun S0 H0 S H σ δ vs ds Q δ1 w r e k => by
  cases ds with
  | nil => cases e; exact ⟨r, k σ w fun _ _ => rfl⟩
  | cons d ds => cases e⟩
theorem dgs_cons (h1 : DG Γ X M e g h M1 ws) (h2 : DGs Γ X M1 es gs hs M2 ws') (hs' : (assignEach (e :: es) X.env).map (·.2) = assign e X.env :: (assignEach es X.env).map (·.2) := by rfl) : DGs Γ X M (e :: es) (gCons g gs) (hCons h hs) M2 (ws ++ ws') :=
  ⟨pgs_cons h1.pg h2.pgs hs', fun S0 H0 S H σ δ vs ds Q δ1 w r e k => by
    cases ds with
    | nil => cases e
    | cons d ds =>
      obtain ⟨v, vr, ev, r1, r2⟩ := r
      obtain ⟨δ2, e1, e2⟩ := bind_some e
      refine ⟨v, vr, ev, h1.snd S0 H0 S H σ δ v d _ δ2 w r1 e1 fun σ1 w1 u1 => ?_⟩
      exact h2.snd S0 H0 S H σ1 δ2 vr ds Q δ1 w1 r2 e2 fun σ2 w2 u2 => k σ2 w2 fun us hu => (u2 us fun i hi => hu i (List.mem_append_right _ hi)).trans (u1 us fun i hi => hu i (List.mem_append_left _ hi))⟩
def hTup (n : Nat) (hs : List D → Env → Option Env) : Hv := fun d δ => match d with | .tup ds => if ds.length = n then hs ds δ else none | _ => none
theorem dg_tup {k n : Nat} (hc : X.calm = true) (h : DGs Γ X M es gs hs M1 ws) (hn : (assignEach es X.env).length = n := by rfl) (hst : (assignEach es X.env).findIdx? (·.1) = none := by rfl) : DG Γ X M (.Tuple es k pos) (gTup X.K n gs) (hTup n hs) M1 ws :=
  ⟨pg_tup hc h.pgs hn hst, fun S0 H0 S H σ δ v d Q δ1 w r e kk => by
    cases d with
    | tup ds =>
      obtain ⟨a, vs, ev, hq, hl, rl⟩ := r
      have e' : (if ds.length = n then hs ds δ else none) = some δ1 := e
      by_cases c : ds.length = n
      · rw [if_pos c] at e'
        exact ⟨a, vs, ev, SqT.of (w.sH _ _ hq), by rw [rl.length]; exact c, h.snd S0 H0 S H σ δ vs ds Q δ1 w rl e' kk⟩
      · rw [if_neg c] at e'; cases e'
    | _ => cases e⟩
/-- target = value -/
def sAsg (f : Ev) (h : Hv) : Sv := fun δ => (f δ).bind fun d => (h d δ).map .nx
theorem ds_asg {E : XK} {rm m : Mode} {te : TE} {f : Ev} (he : DE Γ X M e te f m) (hg : DG Γ X M tg g h M1 ws) (hm : okS m = true := by rfl) (hs : swapsWithSole [tg] e pos.line X.env = pure false := by rfl) (hw : swappedStores [tg] e X.env = pure none := by rfl)
    (h1 : (assignEach [tg] X.env).map (·.2) = [assign tg X.env] := by rfl) : DS Γ X E rm M (.Assign [tg] e pos) (tAsg te g) (sAsg f h) M1 := ⟨ps_asg he.pe hg.pg hs hw h1, fun S0 H0 S H σ δ Dn o w ef k => by
  obtain ⟨d, e1, e2⟩ := bind_some ef
  cases q : h d δ with
  | none => rw [q] at e2; cases e2
  | some δ1 =>
    rw [q] at e2; cases e2
    refine (he.snd.sh hm) S0 H0 S H σ δ _ d w e1 fun v S1 H1 x1 r1 _ => ?_
    exact hg.snd S0 H0 S1 H1 σ δ v d _ δ1 (w.mono x1) r1 q fun σ' w' _ => k S1 H1 σ' x1.ss w'⟩
end

/-! ### what is walked -/
structure ItAt (K : PySem.W.Frag) (Γ : CM) (J : It) (ds : List D) (S H : Hp) : Prop where
  go : ∀ i d, ds[i]? = some d → J.go i H ∧ ∀ x H2, J.yld i H x H2 → ∃ S2, Ext S H S2 H2 ∧ Rep K Γ S2 d x
  stop : J.stop ds.length H
def ItOk (K : PySem.W.Frag) (Γ : CM) (S0 H0 S1 : Hp) (J : It) (ds : List D) : Prop := ds.length ≤ sizeLine ∧ ∀ S H, Ext S0 H0 S H → Same S1 S → ItAt K Γ J ds S H
def SndI (K : PySem.W.Frag) (Γ : CM) (M : List Mode) (wi : TI) (f : Env → Option (List D)) : Prop :=
  ∀ S0 H0 S H σ δ R ds, Wd K Γ S0 H0 S H σ M δ → f δ = some ds → (∀ J S1 H1, Ext S H S1 H1 → ItOk K Γ S0 H0 S1 J ds → R J H1) → wi σ H R
structure DI (Γ : CM) (X : Cx) (M : List Mode) (tg iter : Expr) (wi : TI) (f : Env → Option (List D)) : Prop where
  pi : PI X tg iter wi
  snd : SndI X.K Γ M wi f
section
variable {X : Cx} {Γ : CM} {M M1 M2 : List Mode} {tg e a b iter : Expr} {es : List Expr} {te ta tb : TE} {f : Ev} {m ma mb : Mode} {g : TG} {h : Hv} {ws : List Nat} {pos : Pos} {K : PySem.W.Frag}
/-- a list that stands through the loop -/
def okI : Mode → Bool
  | .rd => false
  | _ => true
def iLstF (f : Ev) : Env → Option (List D) := fun δ => (f δ).bind fun d => match d with | .lst ds => some ds | .scr ns => some (ns.map D.int) | _ => none
theorem len_scr {n : Nat} (h : n ≤ 63) : n ≤ sizeLine := Nat.le_trans h (by decide)
theorem itl_at {S H : Hp} {p : Addr} {vs : List V} {ds : List D} (hq : SqL K H p vs) (r : RepL K Γ S ds vs) (sh : Same S H) : ItAt K Γ (Itl K p) ds S H := by
  refine ⟨fun i d hd => ?_, ⟨vs, hq, by rw [r.length]; exact Nat.le_refl _⟩⟩
  obtain ⟨v, hv, rv⟩ := r.get hd
  refine ⟨⟨vs, v, hq, hv⟩, fun x H2 y => ?_⟩
  obtain ⟨e1, y⟩ := y
  subst e1
  have e2 : x = v := Option.some.inj ((y vs hq).symm.trans hv)
  exact ⟨S, Ext.refl sh, e2 ▸ rv⟩
theorem di_list (ha : DE Γ X M e te f m) (hm : okI m = true := by rfl) : DI Γ X M tg e (iList X.K te) (iLstF f) := ⟨pi_list ha.pe, fun S0 H0 S H σ δ R ds w ef k => by
  obtain ⟨d, e1, e2⟩ := bind_some ef
  have fin : ∀ v S1 H1, Ext S H S1 H1 → (Rep X.K Γ S1 d v ∨ ∃ p, v = .ref p ∧ TopAt X.K Γ S1 H0 p d) → ∃ p, v = .ref p ∧ (∃ xs, SqL X.K H1 p xs) ∧ R (Itl X.K p) H1 := fun v S1 H1 x1 r => by
    have w1 := w.mono x1
    cases d with
    | lst es =>
      cases e2
      rcases r with ⟨p, vs, ev, hp, hl, rl⟩ | ⟨p, ev, vs, hp, hl, rl⟩
      · exact ⟨p, ev, ⟨vs, SqL.of (x1.sh _ _ hp)⟩, k _ S1 H1 x1 ⟨hl, fun S2 H2 x2 s2 => itl_at (SqL.of (x2.sh _ _ (s2 _ _ hp))) (rl.mono s2) x2.sh⟩⟩
      · exact ⟨p, ev, ⟨vs, SqL.of (w1.h0 _ _ hp)⟩, k _ S1 H1 x1 ⟨hl, fun S2 H2 x2 s2 => itl_at (SqL.of (x2.hh _ _ hp)) (rl.mono s2) x2.sh⟩⟩
    | scr ns =>
      cases e2
      rcases r with ⟨p, ev, hp, hl⟩ | ⟨p, ev, t⟩
      · refine ⟨p, ev, ⟨_, x1.sh.seq hp⟩, k _ S1 H1 x1 ⟨by rw [List.length_map]; exact len_scr hl, fun S2 H2 x2 s2 => itl_at (x2.sh.seq (s2.seq hp)) (RepL.ints ns) x2.sh⟩⟩
      · exact t.elim
    | _ => cases e2
  cases m with
  | rd => cases hm
  | sh => exact ha.snd S0 H0 S H σ δ _ d w e1 fun v S1 H1 x1 r1 _ => fin v S1 H1 x1 (.inl r1)
  | bo => exact ha.snd S0 H0 S H σ δ _ d w e1 fun v S1 H1 x1 r1 _ => fin v S1 H1 x1 r1
  | ow => exact ha.snd.share S0 H0 S H σ δ _ d w e1 fun v S1 H1 x1 r1 _ => fin v S1 H1 x1 (.inl r1)⟩
/-- a tuple; a text -/
def iTupF (f : Ev) : Env → Option (List D) := fun δ => (f δ).bind fun d => match d with | .tup ds => some ds | .ktup ds => some ds | _ => none
theorem itt_at {S H : Hp} {p : Addr} {vs : List V} {ds : List D} (hq : SqT K H p vs) (r : RepL K Γ S ds vs) (sh : Same S H) : ItAt K Γ (Itt K p) ds S H := by
  refine ⟨fun i d hd => ?_, ⟨vs, hq, by rw [r.length]; exact Nat.le_refl _⟩⟩
  obtain ⟨v, hv, rv⟩ := r.get hd
  refine ⟨⟨vs, v, hq, hv⟩, fun x H2 y => ?_⟩
  obtain ⟨e1, y⟩ := y
  subst e1
  have e2 : x = v := Option.some.inj ((y vs hq).symm.trans hv)
  exact ⟨S, Ext.refl sh, e2 ▸ rv⟩
theorem di_tup (ha : DE Γ X M e te f m) : DI Γ X M tg e (iTup X.K te) (iTupF f) := ⟨pi_tup ha.pe, fun S0 H0 S H σ δ R ds w ef k => by
  obtain ⟨d, e1, e2⟩ := bind_some ef
  refine ha.snd S0 H0 S H σ δ _ d w e1 fun v S1 H1 x1 r1 _ => ?_
  have w1 := w.mono x1
  cases d with
  | tup es =>
    cases e2
    obtain ⟨p, vs, ev, hp, hl, rl⟩ := r1.tup w1.h0
    exact ⟨p, ev, ⟨vs, SqT.of (x1.sh _ _ hp)⟩, k _ S1 H1 x1 ⟨hl, fun S2 H2 x2 s2 => itt_at (SqT.of (x2.sh _ _ (s2 _ _ hp))) (rl.mono s2) x2.sh⟩⟩
  | ktup es =>
    cases e2
    obtain ⟨p, vs, ev, hp, hl, rl⟩ := r1.ktup w1.h0
    exact ⟨p, ev, ⟨vs, Same.sqt x1.sh hp⟩, k _ S1 H1 x1 ⟨hl, fun S2 H2 x2 s2 => itt_at (Same.sqt x2.sh (Same.sqt s2 hp)) (rl.mono s2) x2.sh⟩⟩
  | _ => cases e2⟩
def signs (x : Str) : List D := x.cps.toList.map fun c => D.str ⟨#[c]⟩
def iStrF (f : Ev) : Env → Option (List D) := fun δ => (f δ).bind fun d => match d with | .str x => some (signs x) | _ => none
theorem one_le : 1 ≤ sizeLine := by decide
theorem di_str (ha : DE Γ X M e te f m) : DI Γ X M tg e (iStr te) (iStrF f) := ⟨pi_str ha.pe, fun S0 H0 S H σ δ R ds w ef k => by
  obtain ⟨d, e1, e2⟩ := bind_some ef
  refine ha.snd S0 H0 S H σ δ _ d w e1 fun v S1 H1 x1 r1 _ => ?_
  have w1 := w.mono x1
  cases d with
  | str x =>
    cases e2
    obtain ⟨ev, hl⟩ := r1.str w1.h0
    have ln : (signs x).length = x.cps.size := by unfold signs; rw [List.length_map]; simp
    refine ⟨x, ev, k _ S1 H1 x1 ⟨by rw [ln]; exact hl, fun S2 H2 x2 s2 => ⟨fun i d hd => ?_, by rw [ln]; exact Nat.le_refl _⟩⟩⟩
    unfold signs at hd
    rw [List.getElem?_map] at hd
    cases q : x.cps.toList[i]? with
    | none => rw [q] at hd; cases hd
    | some c =>
      rw [q] at hd; cases hd
      have q' : x.cps[i]? = some c := by simpa using q
      refine ⟨(Array.getElem?_eq_some_iff.mp q').1, fun y H3 hy => ?_⟩
      obtain ⟨e3, c', hc', ey⟩ := hy
      subst e3
      rw [q'] at hc'
      cases hc'
      exact ⟨S2, Ext.refl x2.sh, ey, one_le⟩
  | _ => cases e2⟩
/-- range(n); range(a, b) -/
def rngD (lo : Int) (n : Nat) : List D := (List.range n).map fun (i : Nat) => D.int (lo + (i : Int))
theorem itr_at {S H : Hp} {lo : Int} {n : Nat} (sh : Same S H) : ItAt K Γ (Itr lo n) (rngD lo n) S H := by
  have ln : (rngD lo n).length = n := by unfold rngD; rw [List.length_map, List.length_range]
  refine ⟨fun i d hd => ?_, by rw [ln]; exact Nat.le_refl _⟩
  have hi : i < n := by rw [← ln]; exact (List.getElem?_eq_some_iff.mp hd).1
  have ed : D.int (lo + (i : Int)) = d := by
    unfold rngD at hd
    rw [List.getElem?_map, List.getElem?_range hi] at hd
    exact Option.some.inj hd
  refine ⟨hi, fun x H2 y => ?_⟩
  obtain ⟨e1, e2⟩ := y
  subst e1 e2 ed
  exact ⟨S, Ext.refl sh, rfl⟩
def iRngF1 (f : Env → Option (List D)) : Env → Option (List D) := fun δ => (f δ).bind fun ds => match ds with | [.int j] => if -1000000 ≤ j ∧ j ≤ 1000000 then some (rngD 0 j.toNat) else none | _ => none
def iRngF2 (f : Env → Option (List D)) : Env → Option (List D) := fun δ => (f δ).bind fun ds => match ds with | [.int i, .int j] => if -1000000 ≤ i ∧ i ≤ 1000000 ∧ -1000000 ≤ j ∧ j ≤ 1000000 then some (rngD i (j - i).toNat) else none | _ => none

theorem rngD_len (lo : Int) (n : Nat) : (rngD lo n).length = n := by unfold rngD; rw [List.length_map, List.length_range]
theorem million : 2000000 ≤ sizeLine := by decide
variable {tr : TA} {fr : Env → Option (List D)} {ms : List Mode}
theorem ArgMs.one {S H : Hp} {m : Mode} {i : Int} {vs : List V} (r : ArgMs K Γ S H [m] [.int i] vs) : vs = [.int i] := by
  obtain ⟨d, ds, v, vs', e1, e2, r, e3, e4⟩ := r
  cases e1
  subst e2 e4
  cases m with
  | sh => rw [show v = V.int i from r]
  | _ =>
    rcases r with r | ⟨a, _, t⟩
    · rw [show v = V.int i from r]
    · exact t.elim
theorem di_rng1 {p : Pos} (hn : X.mg "range" = none) (ha : DAr Γ X M [a] tr fr ms) (hg : Gl X "range" := by rfl) (hs : starEach [a] X.env = [(false, eval a X.env)] := by rfl) : DI Γ X M tg (.Call (.Name "range" p) [a] [] pos) (iRng1 tr) (iRngF1 fr) := ⟨pi_range1 hg hn ha.pa hs, fun S0 H0 S H σ δ R ds w ef k => by
  obtain ⟨as, e1, e2⟩ := bind_some ef
  refine ha.snd S0 H0 S H σ δ _ as w e1 fun vs S1 H1 x1 r1 => ?_
  match as, e2, r1 with
  | [.int j], e2, r1 =>
    obtain ⟨hj, rfl⟩ := ite_some e2
    obtain ⟨m1, rfl⟩ : ∃ m, ms = [m] := by
      have := (r1.len).2
      match ms, this with
      | [m], _ => exact ⟨m, rfl⟩
    exact ⟨j, r1.one, by omega, by omega, k _ S1 H1 x1 ⟨by rw [rngD_len]; have := million; omega, fun S2 H2 x2 s2 => itr_at x2.sh⟩⟩⟩
theorem ArgMs.two {S H : Hp} {m m' : Mode} {i j : Int} {vs : List V} (r : ArgMs K Γ S H [m, m'] [.int i, .int j] vs) : vs = [.int i, .int j] := by
  obtain ⟨d, ds, v, vs', e1, e2, r, t⟩ := r
  cases e1
  have h2 := ArgMs.one t
  have h1 : [v] = [V.int i] := ArgMs.one (m := m) (by exact ⟨_, [], v, [], rfl, rfl, r, rfl, rfl⟩)
  subst e2 h2
  cases h1
  rfl
theorem di_rng2 {p : Pos} (hn : X.mg "range" = none) (ha : DAr Γ X M [a, b] tr fr ms) (hg : Gl X "range" := by rfl) (hs : starEach [a, b] X.env = [(false, eval a X.env), (false, eval b X.env)] := by rfl) (hs2 : starEach [b] X.env = [(false, eval b X.env)] := by rfl) : DI Γ X M tg (.Call (.Name "range" p) [a, b] [] pos) (iRng2 tr) (iRngF2 fr) := ⟨pi_range2 hg hn ha.pa hs hs2, fun S0 H0 S H σ δ R ds w ef k => by
  obtain ⟨as, e1, e2⟩ := bind_some ef
  refine ha.snd S0 H0 S H σ δ _ as w e1 fun vs S1 H1 x1 r1 => ?_
  match as, e2, r1 with
  | [.int i, .int j], e2, r1 =>
    obtain ⟨hj, rfl⟩ := ite_some e2
    obtain ⟨m1, m2, rfl⟩ : ∃ m m', ms = [m, m'] := by
      have := (r1.len).2
      match ms, this with
      | [m, m'], _ => exact ⟨m, m', rfl⟩
    exact ⟨i, j, r1.two, by omega, k _ S1 H1 x1 ⟨by rw [rngD_len]; have := million; omega, fun S2 H2 x2 s2 => itr_at x2.sh⟩⟩⟩

/-! ### for -/
def forD (set : Hv) (body : Sv) : List D → Sv
  | [], δ => some (.nx δ)
  | d :: ds, δ => (set d δ).bind fun δ1 => (body δ1).bind fun o => match o with | .nx δ2 => forD set body ds δ2 | o => some o
def sFor (it : Env → Option (List D)) (set : Hv) (body : Sv) : Sv := fun δ => (it δ).bind fun ds => forD set body ds δ
theorem snd_for {E : XK} {rm : Mode} {wi : TI} {it : Env → Option (List D)} {tb : TS} {body : Sv} (hi : SndI K Γ M wi it) (hg : SndG K Γ M g h M1 ws) (hb : SndS K Γ E rm M1 tb body M) : SndS K Γ E rm M (tFor wi g tb) (sFor it h body) M := fun S0 H0 S H σ δ Dn o w ef k => by
  obtain ⟨ds, e1, e2⟩ := bind_some ef
  refine hi S0 H0 S H σ δ _ ds w e1 fun J S1 H1 x1 ok => ?_
  refine ⟨fun i m σ H => m = ds.length - i ∧ i ≤ ds.length ∧ ∃ S2 δ2, Wd K Γ S0 H0 S2 H σ M δ2 ∧ Same S1 S2 ∧ forD h body (ds.drop i) δ2 = some o, ⟨_, rfl, Nat.zero_le _, S1, δ, w.mono x1, Same.refl _, e2⟩, ?_⟩
  rintro i m σ2 H2 ⟨rfl, hi', S2, δ2, w2, s2, e3⟩
  have at_ := ok.2 S2 H2 w2.ext s2
  by_cases hlt : i < ds.length
  · refine .inr ⟨(at_.go i ds[i] (List.getElem?_eq_getElem hlt)).1, fun σ' H' => ∃ S3 δ3, Wd K Γ S0 H0 S3 H' σ' M δ3 ∧ Same S1 S3 ∧ forD h body (ds.drop (i + 1)) δ3 = some o, fun σ' H' ⟨S3, δ3, w3, s3, e4⟩ => ⟨ds.length - (i + 1), by omega, rfl, hlt, S3, δ3, w3, s3, e4⟩, fun x H3 y => ?_⟩
    obtain ⟨S3, x3, r3⟩ := (at_.go i ds[i] (List.getElem?_eq_getElem hlt)).2 x H3 y
    rw [List.drop_eq_getElem_cons hlt] at e3
    obtain ⟨δ4, e4, e5⟩ := bind_some e3
    obtain ⟨o5, e6, e7⟩ := bind_some e5
    refine hg S0 H0 S3 H3 σ2 δ2 x ds[i] _ δ4 (w2.mono x3) r3 e4 fun σ4 w4 _ => ?_
    refine hb S0 H0 S3 H3 σ4 δ4 _ o5 w4 e6 ?_
    cases o5 with
    | nx δ5 => exact fun S5 H5 σ5 s5 w5 => ⟨S5, δ5, w5, (s2.trans x3.ss).trans s5, e7⟩
    | rt d => cases e7; exact k
    | ex c fs => cases e7; exact k
  · have e : i = ds.length := by omega
    subst e
    rw [List.drop_length] at e3
    cases e3
    exact .inl ⟨at_.stop, k S2 H2 σ2 (x1.ss.trans s2) w2⟩
theorem ds_for {E : XK} {rm : Mode} {wi : TI} {it : Env → Option (List D)} {body : List Stmt} {tb : TS} {s : Sv} (hp : PassesOwn (model X.prog X.w) X.A X.env X.xe) (hc : X.calm = true) (hi : DI Γ X M tg iter wi it) (hg : DG Γ X M tg g h M1 ws) (hb : DSs Γ X E rm M1 body tb s M)
    (hs : ∀ x, foldedSetIterable iter X.env x = pure x := by intro _; rfl) : DS Γ X E rm M (.For tg iter body [] pos) (tFor wi g tb) (sFor it h s) M := ⟨ps_for hp hc hi.pi hg.pg hb.pss hs, snd_for hi.snd hg.snd hb.snd⟩

/-! ### while -/
def whileD (p : Env → Option Bool) (body : Sv) : Nat → Sv
  | 0, _ => none
  | n + 1, δ => (p δ).bind fun b => if b = true then (body δ).bind fun o => match o with | .nx δ1 => whileD p body n δ1 | o => some o else some (.nx δ)
def fuel : Nat := 2 ^ 40
def sWhile (p : Env → Option Bool) (body : Sv) : Sv := whileD p body fuel
theorem whileD_mono {p : Env → Option Bool} {body : Sv} : ∀ {n k : Nat} {δ : Env} {o : Out}, whileD p body n δ = some o → n ≤ k → whileD p body k δ = some o
  | 0, _, _, _, h, _ => by cases h
  | n + 1, 0, _, _, _, hk => by omega
  | n + 1, k + 1, δ, o, h, hk => by
    unfold whileD at h ⊢
    obtain ⟨b, e1, e2⟩ := bind_some h
    rw [e1, Option.bind_some]
    by_cases hb : b = true
    · rw [if_pos hb] at e2 ⊢
      obtain ⟨o1, e3, e4⟩ := bind_some e2
      rw [e3, Option.bind_some]
      cases o1 with
      | nx δ1 => exact whileD_mono e4 (by omega)
      | rt d => exact e4
      | ex c fs => exact e4
    · rw [if_neg hb] at e2 ⊢
      exact e2
theorem sWhile_of {p : Env → Option Bool} {body : Sv} {n : Nat} {δ : Env} {o : Out} (h : whileD p body n δ = some o) (hn : n ≤ fuel) : sWhile p body δ = some o := whileD_mono h hn
theorem snd_while {E : XK} {rm : Mode} {tc : TT} {p : Env → Option Bool} {tb : TS} {body : Sv} (hc : SndT K Γ M tc p) (hb : SndS K Γ E rm M tb body M) : SndS K Γ E rm M (tWhile tc tb) (sWhile p body) M := fun S0 H0 S H σ δ Dn o w ef k => by
  refine ⟨fun m σ H => ∃ S2 δ2, Wd K Γ S0 H0 S2 H σ M δ2 ∧ Same S S2 ∧ whileD p body m δ2 = some o, ⟨fuel, S, δ, w, Same.refl _, ef⟩, ?_⟩
  rintro m σ2 H2 ⟨S2, δ2, w2, s2, e2⟩
  cases m with
  | zero => cases e2
  | succ n =>
    obtain ⟨b, e3, e4⟩ := bind_some e2
    refine hc S0 H0 S2 H2 σ2 δ2 _ b w2 e3 fun S3 H3 x3 => ?_
    cases b with
    | true =>
      rw [if_pos rfl] at e4 ⊢
      obtain ⟨o1, e5, e6⟩ := bind_some e4
      refine ⟨fun σ' H' => ∃ S4 δ4, Wd K Γ S0 H0 S4 H' σ' M δ4 ∧ Same S S4 ∧ whileD p body n δ4 = some o, fun σ' H' q => ⟨n, Nat.lt_succ_self n, q⟩, ?_⟩
      refine hb S0 H0 S3 H3 σ2 δ2 _ o1 (w2.mono x3) e5 ?_
      cases o1 with
      | nx δ1 => exact fun S4 H4 σ4 s4 w4 => ⟨S4, δ1, w4, (s2.trans x3.ss).trans s4, e6⟩
      | rt d => cases e6; exact k
      | ex c fs => cases e6; exact k
    | false =>
      rw [if_neg Bool.false_ne_true] at e4 ⊢
      cases e4
      exact k S3 H3 σ2 (s2.trans x3.ss) (w2.mono x3)
theorem ds_while {E : XK} {rm : Mode} {c : Expr} {tc : TT} {p : Env → Option Bool} {body : List Stmt} {tb : TS} {s : Sv} (hp : PassesOwn (model X.prog X.w) X.A X.env X.xe) (hc : DT Γ X M c tc p) (hb : DSs Γ X E rm M body tb s M) : DS Γ X E rm M (.While c body [] pos) (tWhile tc tb) (sWhile p s) M :=
  ⟨ps_while hp hc.pt hb.pss, snd_while hc.snd hb.snd⟩

/-! ### comprehensions -/
def wipeE (δ : Env) : List Nat → Env
  | [] => δ
  | v :: vs => (wipeE δ vs).set v none
theorem wipeE_len (δ : Env) : ∀ vs, (wipeE δ vs).length = δ.length
  | [] => rfl
  | v :: vs => by unfold wipeE; rw [List.length_set, wipeE_len δ vs]
theorem wipeE_some {δ : Env} {i : Nat} {x : D} : ∀ {vs : List Nat}, (wipeE δ vs)[i]? = some (some x) → δ[i]? = some (some x) ∧ i ∉ vs
  | [], h => ⟨h, by simp⟩
  | v :: vs, h => by
    unfold wipeE at h
    by_cases hi : v = i
    · subst hi
      by_cases hv : v < (wipeE δ vs).length
      · rw [List.getElem?_set_self hv] at h; cases h
      · rw [List.getElem?_eq_none (by simpa using hv)] at h; cases h
    · rw [List.getElem?_set_ne hi] at h
      obtain ⟨h1, h2⟩ := wipeE_some h
      exact ⟨h1, by simp only [List.mem_cons, not_or]; exact ⟨fun e => hi e.symm, h2⟩⟩
theorem Wd.wipe {S0 H0 S H : Hp} {σ : St} {δ : Env} (w : Wd K Γ S0 H0 S H σ M δ) (vs : List Nat) : Wd K Γ S0 H0 S H (L2.wipe σ vs) M (wipeE δ vs) := by
  have key : ∀ {i : Nat} {d : D}, (wipeE δ vs)[i]? = some (some d) → (L2.wipe σ vs)[i]? = σ[i]? := fun {i d} h => by
    rw [wipe_get, if_neg (fun z => (wipeE_some h).2 z.1)]
  refine ⟨w.ext, by rw [wipe_length, wipeE_len, w.len], fun i d h => ?_, fun i d a h m s => ?_, fun i j di dj a h1 h2 m1 m2 s1 s2 => ?_, w.nord⟩
  · rw [key h]; exact w.slot i d (wipeE_some h).1
  · rw [key h] at s; exact w.own i d a (wipeE_some h).1 m s
  · rw [key h1] at s1; rw [key h2] at s2
    exact w.uniq i j di dj a (wipeE_some h1).1 (wipeE_some h2).1 m1 m2 s1 s2
def lcD (set : Hv) (p : Env → Option Bool) (elt : Ev) (δ : Env) : List D → Option (List D)
  | [] => some []
  | d :: ds => (set d δ).bind fun δ1 => (p δ1).bind fun b => if b = true then (elt δ1).bind fun y => (lcD set p elt δ ds).map (y :: ·) else lcD set p elt δ ds
def vLc (it : Env → Option (List D)) (set : Hv) (p : Env → Option Bool) (elt : Ev) (vs : List Nat) : Ev := fun δ => (it δ).bind fun ds => (lcD set p elt (wipeE δ vs) ds).map .lst
theorem lcD_len {set : Hv} {p : Env → Option Bool} {elt : Ev} {δ : Env} : ∀ {ds out : List D}, lcD set p elt δ ds = some out → out.length ≤ ds.length
  | [], out, h => by cases h; exact Nat.le_refl _
  | d :: ds, out, h => by
    obtain ⟨δ1, e1, e2⟩ := bind_some h
    obtain ⟨b, e3, e4⟩ := bind_some e2
    by_cases hb : b = true
    · rw [if_pos hb] at e4
      obtain ⟨y, e5, e6⟩ := bind_some e4
      cases q : lcD set p elt δ ds with
      | none => rw [q] at e6; cases e6
      | some o => rw [q] at e6; cases e6; exact Nat.succ_le_succ (lcD_len q)
    · rw [if_neg hb] at e4
      exact Nat.le_succ_of_le (lcD_len e4)
theorem snd_lc {wi : TI} {it : Env → Option (List D)} {tt : TT} {p : Env → Option Bool} {elt : Ev} {vs : List Nat} (hi : SndI K Γ M wi it) (hg : SndG K Γ M g h M1 ws) (hp : SndT K Γ M1 tt p) (he : SndE K Γ M1 te elt m) (hm : okS m = true) (hw : ∀ i ∈ ws, i ∈ vs) :
    SndE K Γ M (tLc wi g tt te vs) (vLc it h p elt vs) .ow := fun S0 H0 S H σ δ Q d w ef k => by
  obtain ⟨ds, e1, e2⟩ := bind_some ef
  cases q : lcD h p elt (wipeE δ vs) ds with
  | none => rw [q] at e2; cases e2
  | some out =>
    rw [q] at e2
    cases e2
    refine hi S0 H0 S H σ δ _ ds w e1 fun J S1 H1 x1 ok A hA => ?_
    have w1 := w.mono x1
    have sA : S1 A = none := Same.none x1.sh hA
    refine ⟨fun i m H' => m = ds.length - i ∧ i ≤ ds.length ∧ ∃ S2 acc vs1 rest, Ext S1 H1 S2 H' ∧ H' A = some (.lst vs1) ∧ S2 A = none ∧ RepL K Γ S2 acc vs1 ∧ acc.length ≤ i ∧ lcD h p elt (wipeE δ vs) (ds.drop i) = some rest ∧ acc ++ rest = out,
      ⟨_, rfl, Nat.zero_le _, S1, [], [], out, Ext.owned x1.sh hA _, upd_same, sA, rfl, Nat.le_refl _, q, rfl⟩, ?_⟩
    rintro i m H2 ⟨rfl, hi', S2, acc, vs1, rest, x2, hA2, sA2, r2, l2, e3, e4⟩
    have w2 := w1.mono x2
    have at_ := ok.2 S2 H2 w2.ext x2.ss
    by_cases hlt : i < ds.length
    · refine .inr ⟨(at_.go i ds[i] (List.getElem?_eq_getElem hlt)).1, fun H' => ∃ S3 acc vs1 rest, Ext S1 H1 S3 H' ∧ H' A = some (.lst vs1) ∧ S3 A = none ∧ RepL K Γ S3 acc vs1 ∧ acc.length ≤ i + 1 ∧ lcD h p elt (wipeE δ vs) (ds.drop (i + 1)) = some rest ∧ acc ++ rest = out,
        fun H' q => ⟨ds.length - (i + 1), by omega, rfl, hlt, q⟩, fun x H3 y => ?_⟩
      obtain ⟨S3, x3, r3⟩ := (at_.go i ds[i] (List.getElem?_eq_getElem hlt)).2 x H3 y
      rw [List.drop_eq_getElem_cons hlt] at e3
      obtain ⟨δ4, e5, e6⟩ := bind_some e3
      obtain ⟨b, e7, e8⟩ := bind_some e6
      refine hg S0 H0 S3 H3 _ _ x ds[i] _ δ4 ((w2.mono x3).wipe vs) r3 e5 fun σ4 w4 u4 => ⟨(u4 vs hw).trans (wipe_wipe σ vs), ?_⟩
      refine hp S0 H0 S3 H3 σ4 δ4 _ b w4 e7 fun S5 H5 x5 => ?_
      have x25 := (x2.trans x3).trans x5
      have keepA : ∀ {S' H'}, Ext S2 H2 S' H' → H' A = some (.lst vs1) ∧ S' A = none := fun {S' H'} z => ⟨z.hh _ _ hA2, z.fr A _ hA2 sA2⟩
      cases b with
      | true =>
        rw [if_pos rfl] at e8 ⊢
        obtain ⟨y5, e9, e10⟩ := bind_some e8
        cases q5 : lcD h p elt (wipeE δ vs) (ds.drop (i + 1)) with
        | none => rw [q5] at e10; cases e10
        | some rest' =>
          rw [q5] at e10; cases e10
          refine (he.sh hm) S0 H0 S5 H5 σ4 δ4 _ y5 (w4.mono x5) e9 fun v6 S6 H6 x6 r6 _ => ?_
          have kA := keepA ((x3.trans x5).trans x6)
          have x26 := x25.trans x6
          have l1 : vs1.length = acc.length := r2.length
          refine ⟨vs1, kA.1, ?_, S6, acc ++ [y5], vs1 ++ [v6], rest', ⟨x26.ss, fun c o z => (upd_ne (fun e => by subst e; rw [hA] at z; cases z)).trans (x26.hh _ _ z), fun c o z => ?_, fun c o z n => ?_⟩, upd_same, kA.2, ((r2.mono ((x3.trans x5).trans x6).ss).append (RepL.one r6)), ?_, rfl, by rw [List.append_assoc]; exact e4⟩
          · have := ok.1
            omega
          · have nc : c ≠ A := fun e => by subst e; rw [kA.2] at z; cases z
            rw [upd_ne nc]; exact x26.sh _ _ z
          · exact x26.fr c o z n
          · rw [List.length_append, List.length_singleton]; omega
      | false =>
        rw [if_neg Bool.false_ne_true] at e8 ⊢
        have kA := keepA (x3.trans x5)
        exact ⟨S5, acc, vs1, rest, x25, kA.1, kA.2, r2.mono (x3.trans x5).ss, by omega, e8, e4⟩
    · have e : i = ds.length := by omega
      subst e
      rw [List.drop_length] at e3
      cases e3
      rw [List.append_nil] at e4
      subst e4
      refine .inl ⟨at_.stop, k _ S2 H2 (x1.trans x2) ⟨A, rfl, sA2, vs1, hA2, Nat.le_trans l2 ok.1, r2⟩ fun _ a ea => ?_⟩
      cases ea
      exact x1.hh.free hA
def tsYes : Env → Option Bool := fun _ => some true
structure DTs (Γ : CM) (X : Cx) (M : List Mode) (ifs : List Expr) (t : TT) (f : Env → Option Bool) : Prop where
  pts : PTs X ifs t
  snd : SndT X.K Γ M t f
theorem dts_nil : DTs Γ X M [] tYes tsYes := ⟨pts_nil, fun S0 H0 S H σ δ Q b w ef k => by cases ef; exact k S H (Ext.refl w.sH)⟩
theorem dts_one {c : Expr} {t : TT} {p : Env → Option Bool} (h : DT Γ X M c t p) : DTs Γ X M [c] t p := ⟨pts_one h.pt, h.snd⟩
theorem de_lc {elt : Expr} {ifs : List Expr} {scope : Scope} {own : List (Str × Nat)} {wi : TI} {it : Env → Option (List D)} {tt : TT} {p : Env → Option Bool} {fe : Ev} (hc : X.calm = true) (hN : X.N.Nodup) (ok : BlkOk X.N X.env.scope scope own) (hi : DI Γ X M tg iter wi it)
    (hg : ∀ (s : Shared) (H : Hp) (C : Addr) (cl : List (Str × Addr)) (fp : List Addr), DG Γ (X.blk s H scope (compEnvC scope cl C X.env) fp) M tg g h M1 ws) (ht : ∀ (s : Shared) (H : Hp) (C : Addr) (cl : List (Str × Addr)) (fp : List Addr), DTs Γ (X.blk s H scope (compEnvC scope cl C X.env) fp) M1 ifs tt p)
    (he : ∀ (s : Shared) (H : Hp) (C : Addr) (cl : List (Str × Addr)) (fp : List Addr), DE Γ (X.blk s H scope (compEnvC scope cl C X.env) fp) M1 elt te fe m) (hm : okS m = true := by rfl) (hw : ∀ i ∈ ws, i ∈ own.map (·.2) := by decide) (hs : ∀ x, foldedSetIterable iter X.env x = pure x := by intro _; rfl) :
    DE Γ X M (.ListComp elt [⟨tg, iter, ifs, 0⟩] scope pos) (tLc wi g tt te (own.map (·.2))) (vLc it h p fe (own.map (·.2))) .ow :=
  ⟨pe_lc hc hN hi.pi ok (fun s H C cl fp => (hg s H C cl fp).pg) (fun s H C cl fp => (ht s H C cl fp).pts) (fun s H C cl fp => (he s H C cl fp).pe) hs,
    snd_lc hi.snd (hg X.s_0 X.H_0 0 [] []).snd (ht X.s_0 X.H_0 0 [] []).snd (he X.s_0 X.H_0 0 [] []).snd hm hw⟩
/-- name = [..] -/
theorem ds_setLc {E : XK} {rm : Mode} {Mz : List Mode} {i : Nat} {y : Str} {py spos : Pos} {elt : Expr} {ifs : List Expr} {scope : Scope} {own : List (Str × Nat)} {wi : TI} {it : Env → Option (List D)} {tt : TT} {p : Env → Option Bool} {fe : Ev} (hc : X.calm = true) (hN : X.N.Nodup) (ok : BlkOk X.N X.env.scope scope own) (hi : DI Γ X M tg iter wi it)
    (hg : ∀ (s : Shared) (H : Hp) (C : Addr) (cl : List (Str × Addr)) (fp : List Addr), DG Γ (X.blk s H scope (compEnvC scope cl C X.env) fp) M tg g h M1 ws) (ht : ∀ (s : Shared) (H : Hp) (C : Addr) (cl : List (Str × Addr)) (fp : List Addr), DTs Γ (X.blk s H scope (compEnvC scope cl C X.env) fp) M1 ifs tt p)
    (he : ∀ (s : Shared) (H : Hp) (C : Addr) (cl : List (Str × Addr)) (fp : List Addr), DE Γ (X.blk s H scope (compEnvC scope cl C X.env) fp) M1 elt te fe m) (hM : M.set i .ow = Mz := by rfl) (hm : okS m = true := by rfl) (hw : ∀ i ∈ ws, i ∈ own.map (·.2) := by decide) (hy : X.N[i]? = some y := by rfl) (hyl : X.env.scope.names.lookup y = some .local := by rfl) (hl : i < M.length := by decide)
    (hsw : swapsWith (.ListComp elt [⟨tg, iter, ifs, 0⟩] scope pos) (some (.Name y py)) spos.line X.env = pure true := by exact sw_true rfl rfl rfl (by decide +kernel)) (hs : ∀ x, foldedSetIterable iter X.env x = pure x := by intro _; rfl) :
    DS Γ X E rm M (.Assign [.Name y py] (.ListComp elt [⟨tg, iter, ifs, 0⟩] scope pos) spos) (tAsg (tLc wi g tt te (own.map (·.2))) (gName i)) (sSet i (vLc it h p fe (own.map (·.2)))) Mz :=
  ⟨ps_setLc hc hN hy hyl hsw hi.pi ok (fun s H C cl fp => (hg s H C cl fp).pg) (fun s H C cl fp => (ht s H C cl fp).pts) (fun s H C cl fp => (he s H C cl fp).pe) hs,
    hM ▸ snd_set hl (.inl rfl) (snd_lc hi.snd (hg X.s_0 X.H_0 0 [] []).snd (ht X.s_0 X.H_0 0 [] []).snd (he X.s_0 X.H_0 0 [] []).snd hm hw)⟩
end
end Dl
/-! builtins, methods, stores into owned slots, defs. -/
namespace Dl
open PySem L2
theorem callR_or {X : Cx} {f : Value} {r r' : List V → Hp → VK → Prop} (h : CallR X f r) (h' : CallR X f r') : CallR X f (fun xs H Q => r xs H Q ∨ r' xs H Q) := by
  intro pins s σ H xs us Q I r q
  rcases q with q | q
  · exact h pins s σ H xs us Q I r q
  · exact h' pins s σ H xs us Q I r q
section
variable {K : PySem.W.Frag} {Γ : CM} {S H : Hp} {m m' : Mode} {d : D} {v : V} {vs : List V}
theorem ArgMs.get1 (r : ArgMs K Γ S H [m] [d] vs) : ∃ v, vs = [v] ∧ RepM K Γ H S H .bo d v := by
  obtain ⟨d', ds, v, vs', e1, e2, r, e3, e4⟩ := r
  cases e1
  subst e2 e4
  refine ⟨v, rfl, ?_⟩
  cases m with
  | sh => exact .inl r
  | _ => exact r
theorem ArgMs.get2 {d2 : D} (r : ArgMs K Γ S H [m, m'] [d, d2] vs) : ∃ v v2, vs = [v, v2] ∧ RepM K Γ H S H .bo d v ∧ RepM K Γ H S H .bo d2 v2 := by
  obtain ⟨d', ds, v, vs', e1, e2, r, t⟩ := r
  cases e1
  obtain ⟨v2, e3, r2⟩ := ArgMs.get1 t
  subst e2 e3
  refine ⟨v, v2, rfl, ?_, r2⟩
  cases m with
  | sh => exact .inl r
  | _ => exact r
end
/-! ### len -/
def opLen : List D → Option D
  | [.lst ds] => some (.int ds.length)
  | [.tup ds] => some (.int ds.length)
  | [.ktup ds] => some (.int ds.length)
  | [.scr ns] => some (.int ns.length)
  | [.str x] => some (.int x.length)
  | _ => none
theorem cd_len {X : Cx} {Γ : CM} : CD Γ X (.builtin "len") (fun xs H Q => ∃ x n, xs = [x] ∧ LenV X.K x H n ∧ Q (.int n) H) opLen [.bo] .sh := ⟨call_len, fun S H ds vs d Q sh r e k => by
  match ds, e, r with
  | [a], e, r =>
    obtain ⟨v, rfl, r1⟩ := ArgMs.get1 r
    cases a with
    | lst es => cases e; obtain ⟨p, ws, ev, hp, hl, rl⟩ := r1.lst sh (Same.refl _); exact ⟨v, _, rfl, by rw [ev]; exact .inl ⟨ws, SqL.of hp, rl.length.symm⟩, k.flat sh rfl⟩
    | tup es => cases e; obtain ⟨p, ws, ev, hp, hl, rl⟩ := r1.tup (Same.refl _); exact ⟨v, _, rfl, by rw [ev]; exact .inr ⟨ws, SqT.of (sh _ _ hp), rl.length.symm⟩, k.flat sh rfl⟩
    | ktup es => cases e; obtain ⟨p, ws, ev, hp, hl, rl⟩ := r1.ktup (Same.refl _); exact ⟨v, _, rfl, by rw [ev]; exact .inr ⟨ws, Same.sqt sh hp, rl.length.symm⟩, k.flat sh rfl⟩
    | scr ns => cases e; obtain ⟨p, ev, hp, hl⟩ := r1.scr (Same.refl _); exact ⟨v, _, rfl, by rw [ev]; exact .inl ⟨_, sh.seq hp, by rw [List.length_map]⟩, k.flat sh rfl⟩
    | str x => cases e; obtain ⟨ev, hl⟩ := r1.str (Same.refl _); exact ⟨v, _, rfl, by rw [ev]; exact ⟨hl, rfl⟩, k.flat sh rfl⟩
    | _ => cases e⟩
/-! ### isinstance -/
def tyName : D → Option String
  | .non => some "NoneType"
  | .bl _ => some "bool"
  | .int _ => some "int"
  | .str _ => some "str"
  | .lst _ => some "list"
  | .tup _ => some "tuple"
  | .dicK _ => some "dict"
  | .dicT _ => some "dict"
  | _ => none
def isiB (a b : String) : Bool := a == b || (a == "bool" && b == "int")
def opIsi : List D → Option D
  | [d, .ty n] => (tyName d).bind fun a => if kitB a n = some (isiB a n) then some (.bl (isiB a n)) else none
  | _ => none
theorem cd_isi {X : Cx} {Γ : CM} : CD Γ X (.builtin "isinstance") (rIsi X.K) opIsi [.bo, .sh] .sh := ⟨call_isi, fun S H ds vs d Q sh r e k => by
  match ds, e, r with
  | [a, b], e, r =>
    cases b with
    | ty n =>
      obtain ⟨v, v2, rfl, r1, r2⟩ := ArgMs.get2 r
      obtain ⟨t, e1, e2⟩ := bind_some e
      obtain ⟨hk, rfl⟩ := ite_some e2
      have ev2 : v2 = .ty n := r2.flat (Same.refl _) fun _ _ t => t
      refine ⟨v, v2, .type t, .type n, _, rfl, ev2 ▸ ClsV.ty n, ?_, kit_ty hk, k.flat sh rfl⟩
      cases a with
      | non => cases e1; rw [r1.non (Same.refl _)]; exact .base .non
      | bl b => cases e1; rw [r1.bl (Same.refl _)]; exact .base (.bl b)
      | int b => cases e1; rw [r1.int (Same.refl _)]; exact .base (.int b)
      | str b => cases e1; rw [(r1.str (Same.refl _)).1]; exact .base (.str b)
      | lst b => cases e1; obtain ⟨p, ws, ev, hp, _⟩ := r1.lst sh (Same.refl _); rw [ev]; exact .base (.lst hp)
      | tup b => cases e1; obtain ⟨p, ws, ev, hp, _⟩ := r1.tup (Same.refl _); rw [ev]; exact .base (.tup (sh _ _ hp))
      | dicK b => cases e1; obtain ⟨p, ws, ev, hp, _⟩ := r1.dicK sh (Same.refl _); rw [ev]; exact .base (.dK hp)
      | dicT b => cases e1; obtain ⟨p, ws, ev, hp, _⟩ := r1.dicT sh (Same.refl _); rw [ev]; exact .base (.dT hp)
      | _ => cases e1
    | _ => cases a <;> cases e⟩
section
variable {X : Cx} {Γ : CM} {M : List Mode} {e : Expr} {pos : Pos}
/-- int, str, list .. as values -/
theorem de_ty {x : Str} {n : String} (hm : X.mg x = none) (hv : bootBuiltins x = some (.type n) := by decide +kernel) (hg : Gl X x := by rfl) (hn : x ≠ ("__name__" : Str) := by decide) (hd : (x == ("__debug__" : Str)) = false := by decide) : DE Γ X M (.Name x pos) (tC (.ty n)) (vC (.ty n)) .sh :=
  ⟨pe_bltn hg hm hv rfl hn hd, snd_c fun _ => rfl⟩
end
/-! ### min, max -/
def minL : List Int → Int
  | [] => 0
  | n :: ns => ns.foldl min n
def maxL : List Int → Int
  | [] => 0
  | n :: ns => ns.foldl max n
theorem foldl_min_le : ∀ (ns : List Int) (a : Int), ns.foldl min a ≤ a ∧ (∀ x ∈ ns, ns.foldl min a ≤ x) ∧ (ns.foldl min a = a ∨ ns.foldl min a ∈ ns)
  | [], a => ⟨Int.le_refl _, (fun _ h => by cases h), .inl rfl⟩
  | n :: ns, a => by
    obtain ⟨h1, h2, h3⟩ := foldl_min_le ns (min a n)
    rw [List.foldl_cons]
    refine ⟨by omega, fun x hx => ?_, ?_⟩
    · rcases List.mem_cons.mp hx with rfl | hx
      · omega
      · exact h2 x hx
    · rcases h3 with h3 | h3
      · by_cases c : a ≤ n
        · left; omega
        · right; rw [h3]; rw [show min a n = n by omega]; exact List.mem_cons_self
      · exact .inr (List.mem_cons_of_mem _ h3)
theorem foldl_max_le : ∀ (ns : List Int) (a : Int), a ≤ ns.foldl max a ∧ (∀ x ∈ ns, x ≤ ns.foldl max a) ∧ (ns.foldl max a = a ∨ ns.foldl max a ∈ ns)
  | [], a => ⟨Int.le_refl _, (fun _ h => by cases h), .inl rfl⟩
  | n :: ns, a => by
    obtain ⟨h1, h2, h3⟩ := foldl_max_le ns (max a n)
    rw [List.foldl_cons]
    refine ⟨by omega, fun x hx => ?_, ?_⟩
    · rcases List.mem_cons.mp hx with rfl | hx
      · omega
      · exact h2 x hx
    · rcases h3 with h3 | h3
      · by_cases c : n ≤ a
        · left; omega
        · right; rw [h3]; rw [show max a n = n by omega]; exact List.mem_cons_self
      · exact .inr (List.mem_cons_of_mem _ h3)
theorem minL_spec {ns : List Int} (h : ns ≠ []) : minL ns ∈ ns ∧ ∀ x ∈ ns, minL ns ≤ x := by
  cases ns with
  | nil => exact absurd rfl h
  | cons n ns =>
    obtain ⟨h1, h2, h3⟩ := foldl_min_le ns n
    refine ⟨?_, fun x hx => ?_⟩
    · rcases h3 with h3 | h3
      · show ns.foldl min n ∈ _; rw [h3]; exact List.mem_cons_self
      · exact List.mem_cons_of_mem _ h3
    · rcases List.mem_cons.mp hx with rfl | hx
      · exact h1
      · exact h2 x hx
theorem maxL_spec {ns : List Int} (h : ns ≠ []) : maxL ns ∈ ns ∧ ∀ x ∈ ns, x ≤ maxL ns := by
  cases ns with
  | nil => exact absurd rfl h
  | cons n ns =>
    obtain ⟨h1, h2, h3⟩ := foldl_max_le ns n
    refine ⟨?_, fun x hx => ?_⟩
    · rcases h3 with h3 | h3
      · show ns.foldl max n ∈ _; rw [h3]; exact List.mem_cons_self
      · exact List.mem_cons_of_mem _ h3
    · rcases List.mem_cons.mp hx with rfl | hx
      · exact h1
      · exact h2 x hx

def intsOf : List D → Option (List Int)
  | [] => some []
  | .int i :: ds => (intsOf ds).map (i :: ·)
  | _ => none
theorem RepL.intsOf {K : PySem.W.Frag} {Γ : CM} {S : Hp} : ∀ {ds : List D} {vs : List V} {ns : List Int}, RepL K Γ S ds vs → intsOf ds = some ns → vs = ns.map V.int
  | [], _, _, r, h => by cases h; exact r
  | d :: ds, _, ns, ⟨v, ws, e, r, t⟩, h => by
    subst e
    cases d with
    | int i =>
      have h' : (Dl.intsOf ds).map (i :: ·) = some ns := h
      cases q : Dl.intsOf ds with
      | none => rw [q] at h'; cases h'
      | some ms => rw [q] at h'; cases h'; rw [List.map_cons, ← RepL.intsOf t q, show v = V.int i from r]
    | _ => cases h
def opMin : List D → Option D
  | [.lst ds] => (intsOf ds).bind fun ns => if ns = [] then none else some (.int (minL ns))
  | _ => none
def opMax : List D → Option D
  | [.lst ds] => (intsOf ds).bind fun ns => if ns = [] then none else some (.int (maxL ns))
  | _ => none
end Dl
namespace Dl
open PySem L2
section
variable {X : Cx} {Γ : CM}
theorem cd_min (hc : X.calm = true) : CD Γ X (.builtin "min") (rMin X.K) opMin [.bo] .sh := ⟨cr_min hc, fun S H ds vs d Q sh r e k => by
  match ds, e, r with
  | [a], e, r =>
    obtain ⟨v, rfl, r1⟩ := ArgMs.get1 r
    cases a with
    | lst es =>
      obtain ⟨ns, e1, e2⟩ := bind_some e
      obtain ⟨p, ws, ev, hp, hl, rl⟩ := r1.lst sh (Same.refl _)
      by_cases hn : ns = []
      · rw [if_pos hn] at e2; cases e2
      · rw [if_neg hn] at e2; cases e2
        obtain ⟨b1, b2⟩ := minL_spec hn
        refine ⟨p, ns, by rw [ev], by rw [← rl.intsOf e1]; exact SqL.of hp, List.length_pos_iff.mpr hn, fun m h1 h2 => ?_⟩
        have : m = minL ns := by have := b2 m h1; have := h2 _ b1; omega
        subst this
        exact k.flat sh rfl
    | _ => cases e⟩
theorem cd_max (hc : X.calm = true) : CD Γ X (.builtin "max") (rMax X.K) opMax [.bo] .sh := ⟨cr_max hc, fun S H ds vs d Q sh r e k => by
  match ds, e, r with
  | [a], e, r =>
    obtain ⟨v, rfl, r1⟩ := ArgMs.get1 r
    cases a with
    | lst es =>
      obtain ⟨ns, e1, e2⟩ := bind_some e
      obtain ⟨p, ws, ev, hp, hl, rl⟩ := r1.lst sh (Same.refl _)
      by_cases hn : ns = []
      · rw [if_pos hn] at e2; cases e2
      · rw [if_neg hn] at e2; cases e2
        obtain ⟨b1, b2⟩ := maxL_spec hn
        refine ⟨p, ns, by rw [ev], by rw [← rl.intsOf e1]; exact SqL.of hp, List.length_pos_iff.mpr hn, fun m h1 h2 => ?_⟩
        have : m = maxL ns := by have := b2 m h1; have := h2 _ b1; omega
        subst this
        exact k.flat sh rfl
    | _ => cases e⟩
def opMin2 : List D → Option D
  | [.int i, .int j] => some (.int (if j < i then j else i))
  | _ => none
def opMax2 : List D → Option D
  | [.int i, .int j] => some (.int (if j > i then j else i))
  | _ => none
theorem cd_min2 (hc : X.calm = true) : CD Γ X (.builtin "min") (fun xs H Q => ∃ i j, xs = [.int i, .int j] ∧ Q (.int (if j < i then j else i)) H) opMin2 [.sh, .sh] .sh := ⟨call_min2 hc, fun S H ds vs d Q sh r e k => by
  match ds, e, r with
  | [.int i, .int j], e, r => cases e; exact ⟨i, j, r.two, k.flat sh rfl⟩⟩
theorem cd_max2 (hc : X.calm = true) : CD Γ X (.builtin "max") (fun xs H Q => ∃ i j, xs = [.int i, .int j] ∧ Q (.int (if j > i then j else i)) H) opMax2 [.sh, .sh] .sh := ⟨call_max2 hc, fun S H ds vs d Q sh r e k => by
  match ds, e, r with
  | [.int i, .int j], e, r => cases e; exact ⟨i, j, r.two, k.flat sh rfl⟩⟩
def opAbs : List D → Option D
  | [.int i] => some (.int (if i < 0 then -i else i))
  | _ => none
theorem cd_abs : CD Γ X (.builtin "abs") (fun xs H Q => ∃ i, xs = [.int i] ∧ Q (.int (if i < 0 then -i else i)) H) opAbs [.sh] .sh := ⟨call_abs, fun S H ds vs d Q sh r e k => by
  match ds, e, r with
  | [.int i], e, r => cases e; exact ⟨i, r.one, k.flat sh rfl⟩⟩
/-! ### int, str -/
def opInt : List D → Option D
  | [.int i] => some (.int i)
  | [.bl b] => some (.int (if b then 1 else 0))
  | [.str x] => if x.length ≤ 640 then (PySem.intText? x).map D.int else none
  | _ => none
theorem cd_int : CD Γ X (.type "int") (fun xs H Q => ((∃ i, xs = [.int i] ∧ Q (.int i) H) ∨ ∃ k, xs = [.bl k] ∧ Q (.int (if k then 1 else 0)) H) ∨ ∃ a n, xs = [.str a] ∧ PySem.intText? a = some n ∧ a.length ≤ 640 ∧ Q (.int n) H) opInt [.sh] .sh :=
  ⟨callR_or call_int1 call_int_str, fun S H ds vs d Q sh r e k => by
  match ds, e, r with
  | [.int i], e, r => cases e; exact .inl (.inl ⟨i, r.one, k.flat sh rfl⟩)
  | [.bl b], e, r =>
    cases e
    obtain ⟨v, rfl, r1⟩ := ArgMs.get1 r
    exact .inl (.inr ⟨b, by rw [r1.bl (Same.refl _)], k.flat sh rfl⟩)
  | [.str x], e, r =>
    obtain ⟨v, rfl, r1⟩ := ArgMs.get1 r
    have e : (if x.length ≤ 640 then (PySem.intText? x).map D.int else none) = some d := e
    by_cases c : x.length ≤ 640
    · rw [if_pos c] at e
      cases q : PySem.intText? x with
      | none => rw [q] at e; cases e
      | some n => rw [q] at e; cases e; exact .inr ⟨x, n, by rw [(r1.str (Same.refl _)).1], q, c, k.flat sh rfl⟩
    · rw [if_neg c] at e; cases e⟩
def intStr (i : Int) : Str := toString i
def opStr : List D → Option D
  | [.int i] => if i.natAbs.log2 < 1920 ∧ (intStr i).length ≤ sizeLine then some (.str (intStr i)) else none
  | _ => none
theorem cd_str : CD Γ X (.type "str") (fun xs H Q => ∃ i, xs = [.int i] ∧ i.natAbs.log2 < 1920 ∧ Q (.str (toString i)) H) opStr [.sh] .sh := ⟨call_str_int, fun S H ds vs d Q sh r e k => by
  match ds, e, r with
  | [.int i], e, r => obtain ⟨c, rfl⟩ := ite_some e; exact ⟨i, r.one, c.1, k.flat sh ⟨rfl, c.2⟩⟩⟩
/-! ### list, tuple -/
def opList : List D → Option D
  | [.lst ds] => some (.lst ds)
  | [.tup ds] => some (.lst ds)
  | _ => none
theorem cd_list (hm : okS m = true) : CD Γ X (.type "list") (fun xs H Q => ∃ p ys, xs = [.ref p] ∧ (SqL X.K H p ys ∨ SqT X.K H p ys) ∧ ∀ l, H l = none → Q (.ref l) (upd H l (.lst ys))) opList [.bo] m := ⟨call_list_of, fun S H ds vs d Q sh r e k => by
  match ds, e, r with
  | [.lst es], e, r =>
    cases e
    obtain ⟨v, rfl, r1⟩ := ArgMs.get1 r
    obtain ⟨p, ws, ev, hp, hl, rl⟩ := r1.lst sh (Same.refl _)
    exact ⟨p, ws, by rw [ev], .inl (SqL.of hp), fun l h => k.newL hm sh hl rl h⟩
  | [.tup es], e, r =>
    cases e
    obtain ⟨v, rfl, r1⟩ := ArgMs.get1 r
    obtain ⟨p, ws, ev, hp, hl, rl⟩ := r1.tup (Same.refl _)
    exact ⟨p, ws, by rw [ev], .inr (SqT.of (sh _ _ hp)), fun l h => k.newL hm sh hl rl h⟩⟩
def opTuple : List D → Option D
  | [.lst ds] => some (.tup ds)
  | [.tup ds] => some (.tup ds)
  | _ => none
theorem cd_tuple : CD Γ X (.type "tuple") (fun xs H Q => ∃ p ys, xs = [.ref p] ∧ ((SqL X.K H p ys ∧ ∀ l, H l = none → Q (.ref l) (upd H l (.tup ys))) ∨ (SqT X.K H p ys ∧ Q (.ref p) H))) opTuple [.bo] .sh := ⟨call_tuple_of, fun S H ds vs d Q sh r e k => by
  match ds, e, r with
  | [.lst es], e, r =>
    cases e
    obtain ⟨v, rfl, r1⟩ := ArgMs.get1 r
    obtain ⟨p, ws, ev, hp, hl, rl⟩ := r1.lst sh (Same.refl _)
    exact ⟨p, ws, by rw [ev], .inl ⟨SqL.of hp, fun l h => k.newT sh hl rl h⟩⟩
  | [.tup es], e, r =>
    cases e
    obtain ⟨v, rfl, r1⟩ := ArgMs.get1 r
    obtain ⟨p, ws, ev, hp, hl, rl⟩ := r1.tup (Same.refl _)
    exact ⟨p, ws, by rw [ev], .inr ⟨SqT.of (sh _ _ hp), k.flat sh ⟨p, ws, rfl, hp, hl, rl⟩⟩⟩⟩
/-! ### all, any -/
def blsOf : List D → Option (List Bool)
  | [] => some []
  | .bl i :: ds => (blsOf ds).map (i :: ·)
  | _ => none
theorem RepL.blsOf {K : PySem.W.Frag} {S : Hp} : ∀ {ds : List D} {vs : List V} {ns : List Bool}, RepL K Γ S ds vs → blsOf ds = some ns → vs = ns.map V.bl
  | [], _, _, r, h => by cases h; exact r
  | d :: ds, _, ns, ⟨v, ws, e, r, t⟩, h => by
    subst e
    cases d with
    | bl i =>
      have h' : (Dl.blsOf ds).map (i :: ·) = some ns := h
      cases q : Dl.blsOf ds with
      | none => rw [q] at h'; cases h'
      | some ms => rw [q] at h'; cases h'; rw [List.map_cons, ← RepL.blsOf t q, show v = V.bl i from r]
    | _ => cases h
def opAll : List D → Option D
  | [.lst ds] => (blsOf ds).map fun bs => .bl (bs.all id)
  | _ => none
def opAny : List D → Option D
  | [.lst ds] => (blsOf ds).map fun bs => .bl (bs.any id)
  | _ => none
theorem cd_all (hc : X.calm = true) : CD Γ X (.builtin "all") (rAll X.K) opAll [.bo] .sh := ⟨cr_all hc, fun S H ds vs d Q sh r e k => by
  match ds, e, r with
  | [.lst es], e, r =>
    obtain ⟨v, rfl, r1⟩ := ArgMs.get1 r
    obtain ⟨p, ws, ev, hp, hl, rl⟩ := r1.lst sh (Same.refl _)
    have e : (blsOf es).map (fun bs => D.bl (bs.all id)) = some d := e
    cases q : blsOf es with
    | none => rw [q] at e; cases e
    | some bs => rw [q] at e; cases e; exact ⟨p, bs, by rw [ev], by rw [← RepL.blsOf rl q]; exact SqL.of hp, k.flat sh rfl⟩⟩
theorem cd_any (hc : X.calm = true) : CD Γ X (.builtin "any") (rAny X.K) opAny [.bo] .sh := ⟨cr_any hc, fun S H ds vs d Q sh r e k => by
  match ds, e, r with
  | [.lst es], e, r =>
    obtain ⟨v, rfl, r1⟩ := ArgMs.get1 r
    obtain ⟨p, ws, ev, hp, hl, rl⟩ := r1.lst sh (Same.refl _)
    have e : (blsOf es).map (fun bs => D.bl (bs.any id)) = some d := e
    cases q : blsOf es with
    | none => rw [q] at e; cases e
    | some bs => rw [q] at e; cases e; exact ⟨p, bs, by rw [ev], by rw [← RepL.blsOf rl q]; exact SqL.of hp, k.flat sh rfl⟩⟩
end

/-! ### stores into an owned slot -/
section
variable {X : Cx} {Γ : CM} {E : XK} {rm m m' : Mode} {M : List Mode} {e a b : Expr} {te ta tb : TE} {f g : Ev} {pos apos cpos : Pos} {K : PySem.W.Frag}
theorem vVar_some {i : Nat} {δ : Env} {d : D} (h : vVar i δ = some d) : δ[i]? = some (some d) := by
  unfold vVar at h
  cases z : δ[i]? with
  | none => rw [z] at h; cases h
  | some o => rw [z] at h; cases o with
    | none => cases h
    | some x => cases h; rfl
/-- what stands in an owned slot -/
theorem Wd.owned {S0 H0 S H : Hp} {σ : St} {δ : Env} {i : Nat} {d : D} (w : Wd K Γ S0 H0 S H σ M δ) (hM : md M i = .ow) (h : δ[i]? = some (some d)) : ∃ a, σ[i]? = some (some (.ref a)) ∧ S a = none ∧ TopAt K Γ S H a d := by
  obtain ⟨v, hv, r⟩ := w.slot i d h
  rw [hM] at r
  obtain ⟨a, ev, n, t⟩ := r
  subst ev
  exact ⟨a, hv, n, t⟩
def putL (i : Nat) (δ : Env) (ds : List D) : Out := .nx (δ.set i (some (.lst ds)))
def sApp (i : Nat) (f : Ev) : Sv := fun δ => (vVar i δ).bind fun l => match l with
  | .lst ds => (f δ).bind fun d => if ds.length < sizeLine then some (putL i δ (ds ++ [d])) else none
  | _ => none
theorem ds_append {i : Nat} {x : Str} {p : Pos} (hM : md M i = .ow) (he : DE Γ X M e te f m) (hm : okS m = true := by rfl) (hN : X.N[i]? = some x := by rfl) (hv : Vis X.env.scope x := by first | exact Or.inl rfl | exact Or.inr (Or.inl rfl) | exact Or.inr (Or.inr rfl)) (hd : (x == ("__debug__" : Str)) = false := by decide)
    (hcd : (x == ("__classdict__" : Str)) = false := by decide) (hbase : attributeBase (.Name x p) "append" X.env (eval (.Name x p) X.env) = eval (.Name x p) X.env := by rfl)
    (hfew : (((backTo cpos (starEach [e] X.env)).all (!·.1)) && ((backToKw cpos (keywordEach [] X.env)).all (·.1.isSome)) && decide (([e].length + ([] : List Keyword).length + if ([] : List Keyword).isEmpty = true then 0 else 1) < 30)) = true := by rfl) (hline : (apos.endLine == cpos.line) = true := by rfl)
    (h3 : starEach [e] X.env = (false, eval e X.env) :: starEach [] X.env := by rfl) (h4 : (backTo cpos (starEach [] X.env)).any (·.1) = false := by rfl) (hs : swapsWith (.Call (.Attribute (.Name x p) "append" apos) [e] [] cpos) none pos.line X.env = pure false := by rfl) :
    DS Γ X E rm M (.Expr (.Call (.Attribute (.Name x p) "append" apos) [e] [] cpos) pos) (tDrop (tBM X.K "list" rAppend (tVar i) (tCons te tNil))) (sApp i f) M :=
  ⟨ps_expr (pe_bm PySem.F.plainAttrs_list PySem.F.slot_list_append PySem.F.type_list_append mt_append (pe_var hN hv hd hcd) (pa_cons he.pe pa_nil h3) hbase hfew hline h3 h4) hs, fun S0 H0 S H σ δ Dn o w ef k => by
    obtain ⟨l, e1, e2⟩ := bind_some ef
    have hl := vVar_some e1
    cases l with
    | lst ds =>
      obtain ⟨d, e3, e4⟩ := bind_some e2
      obtain ⟨hlen, rfl⟩ := ite_some e4
      obtain ⟨p', hp, hS, vs, hH, hz, rl⟩ := w.owned hM hl
      refine ⟨_, hp, .inl ⟨rfl, vs, SqL.of hH⟩, ?_⟩
      refine (he.snd.sh hm) S0 H0 S H σ δ _ d w e3 fun v S1 H1 x1 r1 _ => ?_
      have r2 := rl.mono x1.ss
      refine ⟨p', vs, v, rfl, rfl, x1.hh _ _ hH, by rw [rl.length]; exact hlen, ?_⟩
      exact k S1 _ σ x1.ss ((w.mono x1).write hM hl hp ⟨_, upd_same, by rw [List.length_append, List.length_singleton]; omega, r2.append (RepL.one r1)⟩)
    | _ => cases e2⟩
def sExt (i : Nat) (f : Ev) : Sv := fun δ => (vVar i δ).bind fun l => match l with
  | .lst ds => (f δ).bind fun d => match d with
    | .lst es => if ds.length + es.length ≤ sizeLine then some (putL i δ (ds ++ es)) else none
    | _ => none
  | _ => none
theorem ds_extend {i : Nat} {x : Str} {p : Pos} (hM : md M i = .ow) (he : DE Γ X M e te f m) (hN : X.N[i]? = some x := by rfl) (hv : Vis X.env.scope x := by first | exact Or.inl rfl | exact Or.inr (Or.inl rfl) | exact Or.inr (Or.inr rfl)) (hd : (x == ("__debug__" : Str)) = false := by decide)
    (hcd : (x == ("__classdict__" : Str)) = false := by decide) (hbase : attributeBase (.Name x p) "extend" X.env (eval (.Name x p) X.env) = eval (.Name x p) X.env := by rfl)
    (hfew : (((backTo cpos (starEach [e] X.env)).all (!·.1)) && ((backToKw cpos (keywordEach [] X.env)).all (·.1.isSome)) && decide (([e].length + ([] : List Keyword).length + if ([] : List Keyword).isEmpty = true then 0 else 1) < 30)) = true := by rfl) (hline : (apos.endLine == cpos.line) = true := by rfl)
    (h3 : starEach [e] X.env = (false, eval e X.env) :: starEach [] X.env := by rfl) (h4 : (backTo cpos (starEach [] X.env)).any (·.1) = false := by rfl) (hs : swapsWith (.Call (.Attribute (.Name x p) "extend" apos) [e] [] cpos) none pos.line X.env = pure false := by rfl) :
    DS Γ X E rm M (.Expr (.Call (.Attribute (.Name x p) "extend" apos) [e] [] cpos) pos) (tDrop (tBM X.K "list" rExtend (tVar i) (tCons te tNil))) (sExt i f) M :=
  ⟨ps_expr (pe_bm PySem.F.plainAttrs_list PySem.F.slot_list_extend PySem.F.type_list_extend mt_extend (pe_var hN hv hd hcd) (pa_cons he.pe pa_nil h3) hbase hfew hline h3 h4) hs, fun S0 H0 S H σ δ Dn o w ef k => by
    obtain ⟨l, e1, e2⟩ := bind_some ef
    have hl := vVar_some e1
    cases l with
    | lst ds =>
      obtain ⟨d, e3, e4⟩ := bind_some e2
      cases d with
      | lst es =>
        obtain ⟨hlen, rfl⟩ := ite_some e4
        obtain ⟨p', hp, hS, vs, hH, hz, rl⟩ := w.owned hM hl
        refine ⟨_, hp, .inl ⟨rfl, vs, SqL.of hH⟩, ?_⟩
        refine he.snd S0 H0 S H σ δ _ _ w e3 fun v S1 H1 x1 r1 _ => ?_
        obtain ⟨p2, ws, ev, h2, l2, r2⟩ := r1.lst x1.sh (w.mono x1).h0
        subst ev
        refine ⟨p', p2, vs, ws, rfl, rfl, x1.hh _ _ hH, h2, by rw [rl.length, r2.length]; exact hlen, ?_⟩
        exact k S1 _ σ x1.ss ((w.mono x1).write hM hl hp ⟨_, upd_same, by rw [List.length_append]; omega, (rl.mono x1.ss).append r2⟩)
      | _ => cases e4
    | _ => cases e2⟩
end

/-! ### a def -/
def denOf (n np : Nat) (rm : Mode) (s : Sv) : List D → Option D := fun ds => if ds.length = np then (s (ds.map some ++ List.replicate (n - np) none)).bind fun o => match o with
  | .rt d => some d
  | .nx _ => if rm = .sh then some .non else none
  | .ex _ _ => none
  else none
def initM (n : Nat) (pm : List Mode) : List Mode := pm ++ List.replicate (n - pm.length) .sh
theorem start_get {N : List Str} {vs : List V} {i : Nat} {v : V} (h : vs[i]? = some v) : (L2.start N vs)[i]? = some (some v) := by
  unfold L2.start
  have hl : i < vs.length := (List.getElem?_eq_some_iff.mp h).1
  rw [List.getElem?_append_left (by rw [List.length_map]; exact hl), List.getElem?_map, h]
  rfl
theorem ArgMs.at {K : PySem.W.Frag} {Γ : CM} {S H : Hp} : ∀ {ms : List Mode} {ds : List D} {vs : List V} {i : Nat} {d : D}, ArgMs K Γ S H ms ds vs → ds[i]? = some d → ∃ v m, vs[i]? = some v ∧ ms[i]? = some m ∧ ArgM K Γ S H m d v
  | [], _, _, _, _, ⟨e, _⟩, h => by subst e; simp at h
  | m :: ms, _, _, 0, d, ⟨d', ds', v, vs', e1, e2, r, t⟩, h => by
    subst e1 e2
    have e : d' = d := Option.some.inj h
    subst e
    exact ⟨v, m, rfl, rfl, r⟩
  | m :: ms, _, _, i + 1, d, ⟨d', ds', v, vs', e1, e2, r, t⟩, h => by
    subst e1 e2
    exact ArgMs.at (i := i) t h
theorem Wd.begin {K : PySem.W.Frag} {Γ : CM} {S H : Hp} {N : List Str} {pm : List Mode} {ds : List D} {vs : List V} (sh : Same S H) (r : ArgMs K Γ S H pm ds vs) (hp : pm.all (fun m => m == .sh || m == .bo) = true) : Wd K Γ S H S H (L2.start N vs) (initM N.length pm) (ds.map some ++ List.replicate (N.length - pm.length) none) := by
  have hm : ∀ i, md (initM N.length pm) i = .sh ∨ md (initM N.length pm) i = .bo := fun i => by
    unfold md initM
    rw [List.getD_eq_getElem?_getD]
    by_cases hi : i < pm.length
    · rw [List.getElem?_append_left hi, List.getElem?_eq_getElem hi]
      have := List.all_eq_true.mp hp _ (List.getElem_mem hi)
      simpa using this
    · rw [List.getElem?_append_right (by omega)]
      cases q : (List.replicate (N.length - pm.length) Mode.sh)[i - pm.length]? with
      | none => exact .inl rfl
      | some m =>
        have := List.mem_of_getElem? q
        rw [List.mem_replicate] at this
        exact .inl this.2
  have ow : ∀ i, md (initM N.length pm) i ≠ .ow := fun i z => by rcases hm i with h | h <;> rw [h] at z <;> cases z
  obtain ⟨l1, l2⟩ := r.len
  refine ⟨Ext.refl sh, by unfold L2.start; simp [l1, l2], fun i d h => ?_, fun i d a h m s => (ow i m).elim, fun i j di dj a h1 h2 m1 m2 s1 s2 => (ow i m1).elim, fun i z => by rcases hm i with h | h <;> rw [h] at z <;> cases z⟩
  by_cases hi : i < ds.length
  · rw [List.getElem?_append_left (by rw [List.length_map]; exact hi), List.getElem?_map, List.getElem?_eq_getElem hi] at h
    have e : ds[i] = d := Option.some.inj (Option.some.inj h)
    obtain ⟨v, m, hv, hmi, ra⟩ := ArgMs.at r ((List.getElem?_eq_getElem hi).trans (congrArg some e))
    refine ⟨v, start_get hv, ?_⟩
    have em : md (initM N.length pm) i = m := by
      unfold md initM
      rw [List.getD_eq_getElem?_getD, List.getElem?_append_left (by omega), hmi]
      rfl
    rw [em]
    have hm' := hm i
    rw [em] at hm'
    rcases hm' with e | e
    · subst e; exact ra
    · subst e; exact ra
  · rw [List.getElem?_append_right (by rw [List.length_map]; omega)] at h
    have := List.mem_of_getElem? h
    rw [List.mem_replicate] at this
    cases this.2
section
variable {P : Program} {w : World} {K : PySem.W.Frag} {mg : Str → Option Value} {base : Heap} {Γ : CM}
theorem fn_ok {x qual : Str} {st : Stmt} {f : Addr} {fd : FuncData} {N ps : List Str} {k : Nat} {pm : List Mode} {rm : Mode} {s : Sv} {M' : List Mode} (F : Fun K x qual st f fd) (S : FnScope N ps (defScope st)) (hl : pm.length = ps.length) (hp : pm.all (fun m => m == .sh || m == .bo) = true) {M0 : List Mode} (hM : initM N.length pm = M0) {n np : Nat} (hn : N.length = n) (hnp : ps.length = np)
    (hbody : ∀ (cdv : Value) (A : Around) (outer : List PySem.Env) (s0 : Shared) (H : Hp) (E : XK), Room k (A.deeper (PyProof.Rows.envOfC qual (defScope st) s0.heap.objs.size f cdv)) →
      ∃ t, DSs Γ (cxOf CX0 P w K mg base N qual (defScope st) f cdv A outer s0 H E).nox E0 rm M0 (defBody st) t s M') : FnOk P w K mg base CX0 (k + 1) f fd ps (spD K Γ pm rm (denOf n np rm s)) := by
  subst hM hn hnp
  refine F.ok S (fun vs H Q E h => ?_) (fun cdv A outer s0 H vs Q E hr h => ?_)
  · obtain ⟨S1, ds, r, _, ra, _⟩ := h
    rw [ra.len.1, hl]
  · obtain ⟨S1, ds, r, sh, ra, ed, kk⟩ := h
    obtain ⟨t, hb⟩ := hbody cdv A outer s0 H E hr
    refine ⟨t, hb.pss, ?_⟩
    unfold denOf at ed
    have hds : ds.length = ps.length := ra.len.2.trans hl
    rw [if_pos hds] at ed
    obtain ⟨o, e1, e2⟩ := bind_some ed
    rw [← hl] at e1
    refine hb.snd S1 H S1 H _ _ _ o (Wd.begin sh ra hp) e1 ?_
    cases o with
    | nx δ =>
      have e2 : (if rm = .sh then some D.non else none) = some r := e2
      obtain ⟨c, rfl⟩ := ite_some e2
      subst c
      exact fun S2 H2 σ2 s2 w2 => kk .non S2 H2 w2.ext rfl fun z => by cases z
    | rt d =>
      cases e2
      exact fun v S2 H2 x2 r2 fr => kk v S2 H2 x2 (by cases rm <;> first | exact r2 | exact r2) fr
    | ex c fs => cases e2
end
end Dl
namespace Dl
open PySem L2
/-! ### anything that is walked -/
theorem pi_or {X : Cx} {tg iter : Expr} {wi wi' : TI} (h : PI X tg iter wi) (h' : PI X tg iter wi') : PI X tg iter (fun σ H R => wi σ H R ∨ wi' σ H R) := by
  refine ⟨fun pins s σ H R I q => ?_⟩
  rcases q with q | q
  · exact h.run pins s σ H R I q
  · exact h'.run pins s σ H R I q
def itemsD : D → Option (List D)
  | .lst ds => some ds
  | .scr ns => some (ns.map D.int)
  | .tup ds => some ds
  | .ktup ds => some ds
  | .str x => some (signs x)
  | _ => none
def iAnyF (f : Ev) : Env → Option (List D) := fun δ => (f δ).bind itemsD
def iAny (K : PySem.W.Frag) (te : TE) : TI := fun σ H R => iList K te σ H R ∨ (iTup K te σ H R ∨ iStr te σ H R)
section
variable {X : Cx} {Γ : CM} {M : List Mode} {tg e : Expr} {te : TE} {f : Ev} {m : Mode}
theorem di_any (ha : DE Γ X M e te f m) (hm : okI m = true := by rfl) : DI Γ X M tg e (iAny X.K te) (iAnyF f) := ⟨pi_or (di_list ha hm).pi (pi_or (di_tup ha).pi (di_str ha).pi), fun S0 H0 S H σ δ R ds w ef k => by
  obtain ⟨d, e1, e2⟩ := bind_some ef
  cases d with
  | lst es => exact .inl ((di_list (tg := tg) ha hm).snd S0 H0 S H σ δ R ds w (by unfold iLstF; rw [e1]; exact e2) k)
  | scr es => exact .inl ((di_list (tg := tg) ha hm).snd S0 H0 S H σ δ R ds w (by unfold iLstF; rw [e1]; exact e2) k)
  | tup es => exact .inr (.inl ((di_tup (tg := tg) ha).snd S0 H0 S H σ δ R ds w (by unfold iTupF; rw [e1]; exact e2) k))
  | ktup es => exact .inr (.inl ((di_tup (tg := tg) ha).snd S0 H0 S H σ δ R ds w (by unfold iTupF; rw [e1]; exact e2) k))
  | str es => exact .inr (.inr ((di_str (tg := tg) ha).snd S0 H0 S H σ δ R ds w (by unfold iStrF; rw [e1]; exact e2) k))
  | _ => cases e2⟩
/-! ### f'..' -/
def vFmt (f : Ev) : Ev := fun δ => (f δ).bind fun d => match d with
  | .str x => some (.str x)
  | .int i => if i.natAbs.log2 < 1920 ∧ (intStr i).length ≤ sizeLine then some (.str (intStr i)) else none
  | _ => none
theorem de_fmt {pos : Pos} (ha : DE Γ X M e te f m) : DE Γ X M (.FormattedValue e (-1) none pos) (tFmt te) (vFmt f) .sh := ⟨pe_fmt ha.pe, fun S0 H0 S H σ δ Q d w ef k => by
  obtain ⟨c, e1, e2⟩ := bind_some ef
  refine ha.snd S0 H0 S H σ δ _ c w e1 fun v S1 H1 x1 r1 _ => ?_
  have w1 := w.mono x1
  cases c with
  | str x => cases e2; obtain ⟨ev, hl⟩ := r1.str w1.h0; exact .inl ⟨x, ev, hl, (k.ext x1).flat x1.sh ⟨rfl, hl⟩⟩
  | int i => obtain ⟨c, rfl⟩ := ite_some e2; exact .inr ⟨i, r1.int w1.h0, c.1, (k.ext x1).flat x1.sh ⟨rfl, c.2⟩⟩
  | _ => cases e2⟩
inductive DJ (Γ : CM) (X : Cx) (M : List Mode) : List Expr → List TE → List Ev → Prop where
  | nil : DJ Γ X M [] [] []
  | cons {e : Expr} {t : TE} {f : Ev} {m : Mode} {es : List Expr} {ts : List TE} {fs : List Ev} (h : DE Γ X M e t f m) (r : DJ Γ X M es ts fs) : DJ Γ X M (e :: es) (t :: ts) (f :: fs)
theorem DJ.pj {es : List Expr} {ts : List TE} {fs : List Ev} (h : DJ Γ X M es ts fs) : PJ X es ts := by
  induction h with
  | nil => exact .nil
  | cons h r ih => exact .cons h.pe ih
def vJ : List Ev → Str → Env → Option Str
  | [], acc, _ => some acc
  | f :: fs, acc, δ => (f δ).bind fun d => match d with
    | .str y => if (acc ++ y).length ≤ sizeLine then vJ fs (acc ++ y) δ else none
    | _ => none
theorem DJ.snd {es : List Expr} {ts : List TE} {fs : List Ev} (h : DJ Γ X M es ts fs) : ∀ (acc out : Str) (S0 H0 S H : Hp) (σ : St) (δ : Env) (Q : Str → Hp → Prop), acc.length ≤ sizeLine → Wd X.K Γ S0 H0 S H σ M δ → vJ fs acc δ = some out → (∀ S' H', Ext S H S' H' → out.length ≤ sizeLine → Q out H') → tJs ts acc σ H Q := by
  induction h with
  | nil =>
    intro acc out S0 H0 S H σ δ Q ha w e k
    cases e
    exact k S H (Ext.refl w.sH) ha
  | cons h r ih =>
    intro acc out S0 H0 S H σ δ Q ha w e k
    obtain ⟨d, e1, e2⟩ := bind_some e
    refine h.snd S0 H0 S H σ δ _ d w e1 fun v S1 H1 x1 r1 _ => ?_
    cases d with
    | str y =>
      have e2 : (if (acc ++ y).length ≤ sizeLine then vJ _ (acc ++ y) δ else none) = some out := e2
      by_cases c : (acc ++ y).length ≤ sizeLine
      · rw [if_pos c] at e2
        exact ⟨y, (r1.str (w.mono x1).h0).1, c, ih (acc ++ y) out S0 H0 S1 H1 σ δ Q c (w.mono x1) e2 fun S2 H2 x2 hl => k S2 H2 (x1.trans x2) hl⟩
      · rw [if_neg c] at e2; cases e2
    | _ => cases e2
def vJoined (fs : List Ev) : Ev := fun δ => (vJ fs Str.empty δ).map D.str
theorem de_joined {v1 v2 : Expr} {rest : List Expr} {ts : List TE} {fs : List Ev} {pos : Pos} (h : DJ Γ X M (v1 :: v2 :: rest) ts fs) : DE Γ X M (.JoinedStr (v1 :: v2 :: rest) pos) (fun σ H Q => tJs ts Str.empty σ H fun out H1 => Q (.str out) H1) (vJoined fs) .sh := ⟨pe_joined h.pj, fun S0 H0 S H σ δ Q d w ef k => by
  unfold vJoined at ef
  cases q : vJ fs Str.empty δ with
  | none => rw [q] at ef; cases ef
  | some out =>
    rw [q] at ef; cases ef
    exact h.snd Str.empty out S0 H0 S H σ δ _ (Nat.zero_le _) w q fun S1 H1 x1 hl => (k.ext x1).flat x1.sh ⟨rfl, hl⟩⟩
end
/-! ### what the top has written -/
structure Dfn (K : PySem.W.Frag) (mg : Str → Option Value) (x qual : Str) (st : Stmt) (ps : List Str) where
  f : Addr
  fd : FuncData
  fn : Fun K x qual st f fd
  gl : mg x = some (.ref f)
  bd : Binds K fd ps []
section
variable {X : Cx} {Γ : CM} {M : List Mode} {e : Expr} {es : List Expr} {tr : TA} {fr : Env → Option (List D)} {m : Mode} {pos : Pos}
theorem de_callD {x qual : Str} {st : Stmt} {ps : List Str} {k : Nat} {p : Pos} {pm : List Mode} {den : List D → Option D} (T : Dfn X.K X.mg x qual st ps) (F : FnOk X.prog X.w X.K X.mg X.base CX0 k T.f T.fd ps (spD X.K Γ pm m den)) (hr : Room k X.A)
    (ha : DAr Γ X M (e :: es) tr fr pm) (hg : Gl X x := by rfl) (hm : okS m = true := by rfl) (h2 : (x == ("__debug__" : Str)) = false := by decide) (h3 : starEach (e :: es) X.env = (false, eval e X.env) :: starEach es X.env := by rfl) (h4 : (backTo pos (starEach es X.env)).any (·.1) = false := by rfl) :
    DE Γ X M (.Call (.Name x p) (e :: es) [] pos) (tCall (spD X.K Γ pm m den) [] E0 tr) (vC1 den fr) m := de_call F hr hg T.gl T.fn.kp T.bd ha hm h2 h3 h4
end
/-! ### the law -/
def spLaw (K : PySem.W.Frag) : Sp := fun vs H Q _ => ∃ (a : Addr) (ns : List Int), vs = [.ref a] ∧ SqL K H a (ns.map V.int) ∧ ns.length ≤ 63 ∧ ∀ H', Q (.bl true) H'
theorem law_of {P : Program} {w : World} {K : PySem.W.Frag} {mg : Str → Option Value} {base : Heap} {Γ : CM} {k : Nat} {f : Addr} {fd : FuncData} {ps : List Str} {m : Mode} {den : List D → Option D} (hm : m = .bo ∨ m = .sh)
    (hden : ∀ ns : List Int, ns.length ≤ 63 → den [.scr ns] = some (.bl true)) (F : FnOk P w K mg base CX0 k f fd ps (spD K Γ [m] .sh den)) : FnOk P w K mg base CX0 k f fd ps (spLaw K) :=
  F.imp fun vs H Q E ⟨a, ns, e, hS, hl, q⟩ => ⟨H, [.scr ns], .bl true, Same.refl _, ⟨_, [], .ref a, [], rfl, e, by
    have r : Rep K Γ H (.scr ns) (.ref a) := ⟨a, rfl, hS, hl⟩
    rcases hm with rfl | rfl
    · exact .inl r
    · exact r, rfl, rfl⟩, hden ns hl, fun v S' H' x r _ => by
    rw [show v = .bl true from r]; exact q H'⟩
end Dl
/-! the rules with the written part said: their readings don't hang on the context. -/
namespace Dl
open PySem L2
section
variable {X : Cx} {Γ : CM} (K : PySem.W.Frag) {M M1 : List Mode} {tg e a b c : Expr} {es : List Expr} {te ta tb : TE} {f g : Ev} {m ma mb : Mode} {pos : Pos} {ws : List Nat} {gs : TGs} {hs : List D → Env → Option Env}
theorem od_addK (hK : X.K = K := by rfl) : OpD Γ X (binaryOp .Add) (rAddD K) opAdd .sh := by subst hK; exact od_add
theorem od_eqK (hu : X.A.units + 64 < cLine) (hK : X.K = K := by rfl) : OpD Γ X (compareOp .Eq) (rEqP K Γ) opEq .sh := by subst hK; exact od_eq hu
theorem od_neK (hu : X.A.units + 64 < cLine) (hK : X.K = K := by rfl) : OpD Γ X (compareOp .NotEq) (rNeP K Γ) opNe .sh := by subst hK; exact od_ne hu
theorem od_inK (hu : X.A.units + 64 < cLine) (hK : X.K = K := by rfl) : OpD Γ X (compareOp .In) (rInP K Γ false) opIn .sh := by subst hK; exact od_in hu
theorem od_ninK (hu : X.A.units + 64 < cLine) (hK : X.K = K := by rfl) : OpD Γ X (compareOp .NotIn) (rInP K Γ true) opNin .sh := by subst hK; exact od_nin hu
theorem de_ixK (hu : X.A.units + 64 < cLine) (ha : DE Γ X M a ta f ma) (hb : DE Γ X M b tb g mb) (hs : PlainIx b := by exact fun _ _ => rfl) (hK : X.K = K := by rfl) : DE Γ X M (.Subscript a b pos) (tOp (rIxA K) ta tb) (v2 opIx f g) .sh := by subst hK; exact de_ix hu ha hb hs
theorem de_slK {lo hi : Option Expr} {tl th : TO} {l u : Env → Option (Option Int)} {p2 : Pos} (ha : DE Γ X M a ta f ma) (hl : DO Γ X M lo tl l) (hh : DO Γ X M hi th u) (hK : X.K = K := by rfl) : DE Γ X M (.Subscript a (.Slice lo hi none p2) pos) (tSl (rSlAll K) ta tl th) (vSl opSl f l u) .sh := by subst hK; exact de_sl ha hl hh
theorem de_slLK {lo hi : Option Expr} {tl th : TO} {l u : Env → Option (Option Int)} {p2 : Pos} (ha : DE Γ X M a ta f ma) (hl : DO Γ X M lo tl l) (hh : DO Γ X M hi th u) (hK : X.K = K := by rfl) : DE Γ X M (.Subscript a (.Slice lo hi none p2) pos) (tSl (rSlL K) ta tl th) (vSl opSlL f l u) .ow := by subst hK; exact de_slL ha hl hh
theorem de_fldK {x : Str} (T : ∀ c, ClsOk K Γ c x) (ha : DE Γ X M e te f m) (hb : attributeBase e x X.env (eval e X.env) = eval e X.env := by rfl) (hK : X.K = K := by rfl) : DE Γ X M (.Attribute e x pos) (tFld K te x) (vFld x f) .sh := by subst hK; exact de_fld T ha hb
theorem cd_lenK (hK : X.K = K := by rfl) : CD Γ X (.builtin "len") (fun xs H Q => ∃ x n, xs = [x] ∧ LenV K x H n ∧ Q (.int n) H) opLen [.bo] .sh := by subst hK; exact cd_len
theorem cd_isiK (hK : X.K = K := by rfl) : CD Γ X (.builtin "isinstance") (rIsi K) opIsi [.bo, .sh] .sh := by subst hK; exact cd_isi
theorem cd_minK (hc : X.calm = true) (hK : X.K = K := by rfl) : CD Γ X (.builtin "min") (rMin K) opMin [.bo] .sh := by subst hK; exact cd_min hc
theorem cd_maxK (hc : X.calm = true) (hK : X.K = K := by rfl) : CD Γ X (.builtin "max") (rMax K) opMax [.bo] .sh := by subst hK; exact cd_max hc
theorem cd_listK (hm : okS m = true) (hK : X.K = K := by rfl) : CD Γ X (.type "list") (fun xs H Q => ∃ p ys, xs = [.ref p] ∧ (SqL K H p ys ∨ SqT K H p ys) ∧ ∀ l, H l = none → Q (.ref l) (upd H l (.lst ys))) opList [.bo] m := by subst hK; exact cd_list hm
theorem cd_tupleK (hK : X.K = K := by rfl) : CD Γ X (.type "tuple") (fun xs H Q => ∃ p ys, xs = [.ref p] ∧ ((SqL K H p ys ∧ ∀ l, H l = none → Q (.ref l) (upd H l (.tup ys))) ∨ (SqT K H p ys ∧ Q (.ref p) H))) opTuple [.bo] .sh := by subst hK; exact cd_tuple
theorem cd_allK (hc : X.calm = true) (hK : X.K = K := by rfl) : CD Γ X (.builtin "all") (rAll K) opAll [.bo] .sh := by subst hK; exact cd_all hc
theorem cd_anyK (hc : X.calm = true) (hK : X.K = K := by rfl) : CD Γ X (.builtin "any") (rAny K) opAny [.bo] .sh := by subst hK; exact cd_any hc
theorem di_anyK (ha : DE Γ X M e te f m) (hm : okI m = true := by rfl) (hK : X.K = K := by rfl) : DI Γ X M tg e (iAny K te) (iAnyF f) := by subst hK; exact di_any ha hm
theorem dg_tupK {k n : Nat} (hc : X.calm = true) (h : DGs Γ X M es gs hs M1 ws) (hn : (assignEach es X.env).length = n := by rfl) (hst : (assignEach es X.env).findIdx? (·.1) = none := by rfl) (hK : X.K = K := by rfl) : DG Γ X M (.Tuple es k pos) (gTup K n gs) (hTup n hs) M1 ws := by subst hK; exact dg_tup hc h hn hst
theorem de_callDK {mg : Str → Option Value} {tr : TA} {fr : Env → Option (List D)} {x qual : Str} {st : Stmt} {ps : List Str} {k : Nat} {p : Pos} {pm : List Mode} {den : List D → Option D} (T : Dfn K mg x qual st ps) (F : FnOk X.prog X.w K mg X.base CX0 k T.f T.fd ps (spD K Γ pm m den)) (hr : Room k X.A)
    (ha : DAr Γ X M (e :: es) tr fr pm) (hg : Gl X x := by rfl) (hm : okS m = true := by rfl) (h2 : (x == ("__debug__" : Str)) = false := by decide) (h3 : starEach (e :: es) X.env = (false, eval e X.env) :: starEach es X.env := by rfl) (h4 : (backTo pos (starEach es X.env)).any (·.1) = false := by rfl) (hK : X.K = K := by rfl) (hmg : X.mg = mg := by rfl) :
    DE Γ X M (.Call (.Name x p) (e :: es) [] pos) (tCall (spD K Γ pm m den) [] E0 tr) (vC1 den fr) m := by subst hK hmg; exact de_callD T F hr ha hg hm h2 h3 h4
end
end Dl
/-! methods of texts. -/
namespace Dl
open PySem L2
structure MD (Γ : CM) (X : Cx) (id : String) (r : V → List V → Hp → VK → Prop) (op : Str → List D → Option D) (ms : List Mode) (m : Mode) : Prop where
  mt : MtR X id r
  snd : ∀ S H x ds vs d Q, Same S H → x.length ≤ sizeLine → ArgMs X.K Γ S H ms ds vs → op x ds = some d → Kont X.K Γ H S H m d Q → r (.str x) vs H Q
def vM (op : Str → List D → Option D) (f : Ev) (g : Env → Option (List D)) : Ev := fun δ => (f δ).bind fun a => (g δ).bind fun ds => match a with | .str x => op x ds | _ => none
section
variable {X : Cx} {Γ : CM} {M : List Mode} {o e : Expr} {es : List Expr} {to : TE} {tr : TA} {f : Ev} {fr : Env → Option (List D)} {m mo : Mode} {ms : List Mode} {name : Str} {apos cpos : Pos} {id : String} {r : V → List V → Hp → VK → Prop} {op : Str → List D → Option D}
theorem de_bm (K : PySem.W.Frag) (slot : Slot "str" name id) (hty : typeOf (.builtin id) = pure (.type "method_descriptor")) (md : MD Γ X id r op ms m) (ho : DE Γ X M o to f mo) (ha : DAr Γ X M (e :: es) tr fr ms) (hm : okS m = true := by rfl)
    (h1 : attributeBase o name X.env (eval o X.env) = eval o X.env := by rfl)
    (h2 : (((backTo cpos (starEach (e :: es) X.env)).all (!·.1)) && ((backToKw cpos (keywordEach [] X.env)).all (·.1.isSome)) && decide (((e :: es).length + ([] : List Keyword).length + if ([] : List Keyword).isEmpty = true then 0 else 1) < 30)) = true := by rfl) (h3 : (apos.endLine == cpos.line) = true := by rfl)
    (h4 : starEach (e :: es) X.env = (false, eval e X.env) :: starEach es X.env := by rfl) (h5 : (backTo cpos (starEach es X.env)).any (·.1) = false := by rfl) (hK : X.K = K := by rfl) :
    DE Γ X M (.Call (.Attribute o name apos) (e :: es) [] cpos) (tBM K "str" r to tr) (vM op f fr) m := by
  subst hK
  exact ⟨pe_bm PySem.F.plainAttrs_str slot hty md.mt ho.pe ha.pa h1 h2 h3 h4 h5, fun S0 H0 S H σ δ Q d w ef k => by
    obtain ⟨a, e1, e2⟩ := bind_some ef
    obtain ⟨ds, e3, e4⟩ := bind_some e2
    refine ho.snd S0 H0 S H σ δ _ a w e1 fun v S1 H1 x1 r1 _ => ?_
    cases a with
    | str x =>
      obtain ⟨ev, hl⟩ := r1.str (w.mono x1).h0
      subst ev
      refine ⟨rfl, ?_⟩
      exact ha.snd S0 H0 S1 H1 σ δ _ ds (w.mono x1) e3 fun vs S2 H2 x2 r2 => md.snd S2 H2 x ds vs d Q x2.sh hl r2 e4 ((k.ext (x1.trans x2)).h0 hm)
    | _ => cases e4⟩
def vM0 (op : Str → List D → Option D) (f : Ev) : Ev := fun δ => (f δ).bind fun a => match a with | .str x => op x [] | _ => none
theorem de_bm0 (K : PySem.W.Frag) (slot : Slot "str" name id) (hty : typeOf (.builtin id) = pure (.type "method_descriptor")) (md : MD Γ X id r op [] m) (ho : DE Γ X M o to f mo) (hm : okS m = true := by rfl)
    (h1 : attributeBase o name X.env (eval o X.env) = eval o X.env := by rfl) (h3 : (apos.endLine == cpos.line) = true := by rfl) (hK : X.K = K := by rfl) :
    DE Γ X M (.Call (.Attribute o name apos) [] [] cpos) (tBM0 K "str" r to) (vM0 op f) m := by
  subst hK
  exact ⟨pe_bm0 PySem.F.plainAttrs_str slot hty md.mt ho.pe h1 h3, fun S0 H0 S H σ δ Q d w ef k => by
    obtain ⟨a, e1, e4⟩ := bind_some ef
    refine ho.snd S0 H0 S H σ δ _ a w e1 fun v S1 H1 x1 r1 _ => ?_
    cases a with
    | str x =>
      obtain ⟨ev, hl⟩ := r1.str (w.mono x1).h0
      subst ev
      exact ⟨rfl, md.snd S1 H1 x [] [] d Q x1.sh hl ⟨rfl, rfl⟩ e4 ((k.ext x1).h0 hm)⟩
    | _ => cases e4⟩
/-! the methods -/
theorem ArgMs.str1 {K : PySem.W.Frag} {S H : Hp} {m : Mode} {y : Str} {vs : List V} (r : ArgMs K Γ S H [m] [.str y] vs) : vs = [.str y] ∧ y.length ≤ sizeLine := by
  obtain ⟨v, e, r1⟩ := ArgMs.get1 r
  obtain ⟨e2, h⟩ := r1.str (Same.refl _)
  exact ⟨by rw [e, e2], h⟩
def mFind (x : Str) : List D → Option D
  | [.str y] => some (.int (Txt.find x y))
  | _ => none
theorem md_find : MD Γ X "str.find" (fun x xs H Q => ∃ a b, x = .str a ∧ xs = [.str b] ∧ Q (.int (Txt.find a b)) H) mFind [.sh] .sh := ⟨mt_find, fun S H x ds vs d Q sh hx r e k => by
  match ds, e, r with
  | [.str y], e, r => cases e; exact ⟨x, y, rfl, r.str1.1, k.flat sh rfl⟩⟩
def mCount (x : Str) : List D → Option D
  | [.str y] => some (.int (Txt.count x y))
  | _ => none
theorem md_count : MD Γ X "str.count" (fun x xs H Q => ∃ a b, x = .str a ∧ xs = [.str b] ∧ Q (.int (Txt.count a b)) H) mCount [.sh] .sh := ⟨mt_count, fun S H x ds vs d Q sh hx r e k => by
  match ds, e, r with
  | [.str y], e, r => cases e; exact ⟨x, y, rfl, r.str1.1, k.flat sh rfl⟩⟩
def mLower (x : Str) : List D → Option D
  | [] => if x.length ≤ 5592405 ∧ (Txt.lower x).length ≤ sizeLine then some (.str (Txt.lower x)) else none
  | _ => none
theorem md_lower : MD Γ X "str.lower" (fun x xs H Q => ∃ a, x = .str a ∧ xs = [] ∧ a.length ≤ 5592405 ∧ Q (.str (Txt.lower a)) H) mLower [] .sh := ⟨mt_lower, fun S H x ds vs d Q sh hx r e k => by
  match ds, e, r with
  | [], e, r => obtain ⟨c, rfl⟩ := ite_some e; exact ⟨x, rfl, r.2, c.1, k.flat sh ⟨rfl, c.2⟩⟩⟩
def mUpper (x : Str) : List D → Option D
  | [] => if x.length ≤ 5592405 ∧ (Txt.upper x).length ≤ sizeLine then some (.str (Txt.upper x)) else none
  | _ => none
theorem md_upper : MD Γ X "str.upper" (fun x xs H Q => ∃ a, x = .str a ∧ xs = [] ∧ a.length ≤ 5592405 ∧ Q (.str (Txt.upper a)) H) mUpper [] .sh := ⟨mt_upper, fun S H x ds vs d Q sh hx r e k => by
  match ds, e, r with
  | [], e, r => obtain ⟨c, rfl⟩ := ite_some e; exact ⟨x, rfl, r.2, c.1, k.flat sh ⟨rfl, c.2⟩⟩⟩
def strsOf : List D → Option (List Str)
  | [] => some []
  | .str i :: ds => (strsOf ds).map (i :: ·)
  | _ => none
theorem RepL.strsOf {K : PySem.W.Frag} {S : Hp} : ∀ {ds : List D} {vs : List V} {ns : List Str}, RepL K Γ S ds vs → strsOf ds = some ns → vs = ns.map V.str
  | [], _, _, r, h => by cases h; exact r
  | d :: ds, _, ns, ⟨v, ws, e, r, t⟩, h => by
    subst e
    cases d with
    | str i =>
      have h' : (Dl.strsOf ds).map (i :: ·) = some ns := h
      cases q : Dl.strsOf ds with
      | none => rw [q] at h'; cases h'
      | some ms => rw [q] at h'; cases h'; rw [List.map_cons, ← RepL.strsOf t q, r.1]
    | _ => cases h
end
end Dl
namespace Dl
open PySem L2
section
variable {X : Cx} {Γ : CM} {M M1 : List Mode} {E : XK} {rm : Mode}
/-- a, b = e1, e2 -/
def sPar (i j : Nat) (f : Env → Option (List D)) : Sv := fun δ => (f δ).bind fun ds => match ds with
  | [d, e] => some (.nx ((δ.set i (some d)).set j (some e)))
  | _ => none
theorem ds_par {i j : Nat} {x y : Str} {a b : Expr} {ta : TA} {f : Env → Option (List D)} {px py pt pos : Pos} {kt k2 pt2} (hc : X.calm = true) (hN : X.N.Nodup) (ha : DAr Γ X M [a, b] ta f [.sh, .sh]) (hM : (M.set i .sh).set j .sh = M1 := by rfl) (hi : X.N[i]? = some x := by rfl) (hj : X.N[j]? = some y := by rfl) (hij : i ≠ j := by decide)
    (hx : X.env.scope.names.lookup x = some .local := by rfl) (hy : X.env.scope.names.lookup y = some .local := by rfl) (l1 : i < M.length := by decide) (l2 : j < M.length := by decide)
    (hw : swappedStores [.Tuple [.Name x px, .Name y py] kt pt] (.Tuple [a, b] k2 pt2) X.env = pure (some [x, y]) := by rfl)
    (hs : swapsWithSole [.Tuple [.Name x px, .Name y py] kt pt] (.Tuple [a, b] k2 pt2) pos.line X.env = pure false := by rfl) :
    DS Γ X E rm M (.Assign [.Tuple [.Name x px, .Name y py] kt pt] (.Tuple [a, b] k2 pt2) pos) (tPar i j ta) (sPar i j f) M1 :=
  ⟨ps_par hc hN hi hj hij hx hy ha.pa hw hs, fun S0 H0 S H σ δ Dn o w ef k => by
    subst hM
    obtain ⟨ds, e1, e2⟩ := bind_some ef
    match ds, e2, e1 with
    | [d, e], e2, e1 =>
      cases e2
      refine ha.snd S0 H0 S H σ δ _ _ w e1 fun vs S1 H1 x1 r1 => ?_
      obtain ⟨d', ds', v, vs', q1, q2, r, t⟩ := r1
      obtain ⟨e', es', v', vs2, q3, q4, r', t', t''⟩ := t
      cases q1
      cases q3
      subst q2 q4 t''
      have w1 := (w.mono x1).store l1 (.inl rfl) (m := .sh) r (fun z => by cases z) fun z => by cases z
      have w2 := w1.store (i := j) (by rw [List.length_set]; exact l2) (.inl rfl) (m := .sh) r' (fun z => by cases z) fun z => by cases z
      exact ⟨v, v', rfl, k S1 H1 _ x1.ss w2⟩⟩
def mJoin (x : Str) : List D → Option D
  | [.lst ds] => (strsOf ds).bind fun ys => if (ys.map (·.length)).sum + ys.length * x.length ≤ 16777216 ∧ (Txt.join x ys).length ≤ sizeLine then some (.str (Txt.join x ys)) else none
  | _ => none
theorem md_join (K : PySem.W.Frag) (hK : X.K = K := by rfl) : MD Γ X "str.join" (fun x xs H Q => ∃ a p, ∃ ys : List Str, x = .str a ∧ xs = [.ref p] ∧ (SqL K H p (ys.map V.str) ∨ SqT K H p (ys.map V.str)) ∧
    (ys.map (·.length)).sum + ys.length * a.length ≤ 16777216 ∧ Q (.str (Txt.join a ys)) H) mJoin [.bo] .sh := by
  subst hK
  exact ⟨mt_join, fun S H x ds vs d Q sh hx r e k => by
    match ds, e, r with
    | [.lst es], e, r =>
      obtain ⟨ys, e1, e2⟩ := bind_some e
      obtain ⟨c, rfl⟩ := ite_some e2
      obtain ⟨v, rfl, r1⟩ := ArgMs.get1 r
      obtain ⟨p, ws, ev, hp, hl, rl⟩ := r1.lst sh (Same.refl _)
      exact ⟨x, p, ys, rfl, by rw [ev], .inl (by rw [← RepL.strsOf rl e1]; exact SqL.of hp), c.1, k.flat sh ⟨rfl, c.2⟩⟩⟩
end
end Dl
namespace Dl
open PySem L2
section
variable {X : Cx} {Γ : CM} {M : List Mode} {pos : Pos}
theorem de_gstr {x s : Str} {t : Tok} (hm : X.mg x = some (.str s t)) (hl : s.length ≤ sizeLine := by decide +kernel) (hg : Gl X x := by rfl) (hd : (x == ("__debug__" : Str)) = false := by decide) : DE Γ X M (.Name x pos) (tC (.str s)) (vC (.str s)) .sh := de_glob hg hm ⟨_, rfl⟩ (fun _ => ⟨rfl, hl⟩) hd
theorem de_gint {x : Str} {i : Int} {t : Tok} (hm : X.mg x = some (.int i t)) (hg : Gl X x := by rfl) (hd : (x == ("__debug__" : Str)) = false := by decide) : DE Γ X M (.Name x pos) (tC (.int i)) (vC (.int i)) .sh := de_glob hg hm ⟨_, rfl⟩ (fun _ => rfl) hd
end
end Dl
/-! dicts: displays, stores; stores into lists. -/
namespace Dl
open PySem L2
section
variable {κ : Type} [DecidableEq κ]
def putD (kvs : List (κ × D)) (k : κ) (d : D) : List (κ × D) := if (kvs.any fun kv => decide (kv.1 = k)) = true then kvs.map (fun kv => if kv.1 = k then (kv.1, d) else kv) else kvs ++ [(k, d)]
def mergeD (kvs more : List (κ × D)) : List (κ × D) := more.foldl (fun acc kv => putD acc kv.1 kv.2) kvs
end
section
variable {K : PySem.W.Frag} {Γ : CM} {S H : Hp}
theorem RepK.any (k : Key) : ∀ {ds : List (Key × D)} {vs : List (Key × V)}, RepK K Γ S ds vs → (vs.any fun kv => decide (kv.1 = k)) = ds.any fun kv => decide (kv.1 = k)
  | [], _, h => by cases (show _ = [] from h); rfl
  | (j, d) :: ds, _, ⟨v, ws, e, r, t⟩ => by subst e; rw [List.any_cons, List.any_cons, RepK.any k t]
theorem RepK.map {k : Key} {d : D} {v : V} (r : Rep K Γ S d v) : ∀ {ds : List (Key × D)} {vs : List (Key × V)}, RepK K Γ S ds vs → RepK K Γ S (ds.map fun kv => if kv.1 = k then (kv.1, d) else kv) (vs.map fun kv => if kv.1 = k then (kv.1, v) else kv)
  | [], _, h => by cases (show _ = [] from h); rfl
  | (j, x) :: ds, _, ⟨y, ws, e, q, t⟩ => by
    subst e
    rw [List.map_cons, List.map_cons]
    by_cases c : j = k
    · subst c; rw [if_pos rfl, if_pos rfl]; exact ⟨v, _, rfl, r, RepK.map r t⟩
    · rw [if_neg c, if_neg c]; exact ⟨y, _, rfl, q, RepK.map r t⟩
theorem RepK.snoc {k : Key} {d : D} {v : V} (r : Rep K Γ S d v) : ∀ {ds : List (Key × D)} {vs : List (Key × V)}, RepK K Γ S ds vs → RepK K Γ S (ds ++ [(k, d)]) (vs ++ [(k, v)])
  | [], _, h => by cases (show _ = [] from h); exact ⟨v, [], rfl, r, rfl⟩
  | (j, x) :: ds, _, ⟨y, ws, e, q, t⟩ => by subst e; exact ⟨y, _, rfl, q, RepK.snoc r t⟩
theorem RepK.put {k : Key} {d : D} {v : V} {ds : List (Key × D)} {vs : List (Key × V)} (h : RepK K Γ S ds vs) (r : Rep K Γ S d v) : RepK K Γ S (putD ds k d) (putK vs k v) := by
  unfold putD putK
  rw [h.any k]
  by_cases c : (ds.any fun kv => decide (kv.1 = k)) = true
  · rw [if_pos c, if_pos c]; exact RepK.map r h
  · rw [if_neg c, if_neg c]; exact RepK.snoc r h
theorem RepK.len : ∀ {ds : List (Key × D)} {vs : List (Key × V)}, RepK K Γ S ds vs → vs.length = ds.length
  | [], _, h => by cases (show _ = [] from h); rfl
  | (j, d) :: ds, _, ⟨v, ws, e, r, t⟩ => by subst e; rw [List.length_cons, List.length_cons, RepK.len t]
theorem RepK.merge : ∀ {more : List (Key × D)} {ms : List (Key × V)} {ds : List (Key × D)} {vs : List (Key × V)}, RepK K Γ S more ms → RepK K Γ S ds vs → RepK K Γ S (mergeD ds more) (mergeK vs ms)
  | [], _, _, _, h, q => by cases (show _ = [] from h); exact q
  | (j, x) :: more, _, ds, vs, ⟨y, ws, e, r, t⟩, q => by
    subst e
    show RepK K Γ S (mergeD (putD ds j x) more) (mergeK (putK vs j y) ws)
    exact RepK.merge t (q.put r)
theorem RepT.any (k : List Key) : ∀ {ds : List (List Key × D)} {vs : List (List Key × V)}, RepT K Γ S ds vs → (vs.any fun kv => decide (kv.1 = k)) = ds.any fun kv => decide (kv.1 = k)
  | [], _, h => by cases (show _ = [] from h); rfl
  | (j, d) :: ds, _, ⟨v, ws, e, r, t⟩ => by subst e; rw [List.any_cons, List.any_cons, RepT.any k t]
theorem RepT.map {k : List Key} {d : D} {v : V} (r : Rep K Γ S d v) : ∀ {ds : List (List Key × D)} {vs : List (List Key × V)}, RepT K Γ S ds vs → RepT K Γ S (ds.map fun kv => if kv.1 = k then (kv.1, d) else kv) (vs.map fun kv => if kv.1 = k then (kv.1, v) else kv)
  | [], _, h => by cases (show _ = [] from h); rfl
  | (j, x) :: ds, _, ⟨y, ws, e, q, t⟩ => by
    subst e
    rw [List.map_cons, List.map_cons]
    by_cases c : j = k
    · subst c; rw [if_pos rfl, if_pos rfl]; exact ⟨v, _, rfl, r, RepT.map r t⟩
    · rw [if_neg c, if_neg c]; exact ⟨y, _, rfl, q, RepT.map r t⟩
theorem RepT.snoc {k : List Key} {d : D} {v : V} (r : Rep K Γ S d v) : ∀ {ds : List (List Key × D)} {vs : List (List Key × V)}, RepT K Γ S ds vs → RepT K Γ S (ds ++ [(k, d)]) (vs ++ [(k, v)])
  | [], _, h => by cases (show _ = [] from h); exact ⟨v, [], rfl, r, rfl⟩
  | (j, x) :: ds, _, ⟨y, ws, e, q, t⟩ => by subst e; exact ⟨y, _, rfl, q, RepT.snoc r t⟩
theorem RepT.put {k : List Key} {d : D} {v : V} {ds : List (List Key × D)} {vs : List (List Key × V)} (h : RepT K Γ S ds vs) (r : Rep K Γ S d v) : RepT K Γ S (putD ds k d) (putK vs k v) := by
  unfold putD putK
  rw [h.any k]
  by_cases c : (ds.any fun kv => decide (kv.1 = k)) = true
  · rw [if_pos c, if_pos c]; exact RepT.map r h
  · rw [if_neg c, if_neg c]; exact RepT.snoc r h
theorem RepT.len : ∀ {ds : List (List Key × D)} {vs : List (List Key × V)}, RepT K Γ S ds vs → vs.length = ds.length
  | [], _, h => by cases (show _ = [] from h); rfl
  | (j, d) :: ds, _, ⟨v, ws, e, r, t⟩ => by subst e; rw [List.length_cons, List.length_cons, RepT.len t]
end
/-! ### displays -/
def SndPs (K : PySem.W.Frag) (Γ : CM) (M : List Mode) (trs : List (TE × TE)) (f : Env → Option (List (Key × D))) : Prop :=
  ∀ S0 H0 S H σ δ Q ps, Wd K Γ S0 H0 S H σ M δ → f δ = some ps → (∀ kvs S' H', Ext S H S' H' → RepK K Γ S' ps kvs → Q (kvs.map fun kv => (kV kv.1, kv.2)) H') → tPairs trs σ H Q
structure DPs (Γ : CM) (X : Cx) (M : List Mode) (pos : Pos) (keys : List (Option Expr)) (values : List Expr) (trs : List (TE × TE)) (f : Env → Option (List (Key × D))) : Prop where
  pp : PPs X pos keys values trs
  snd : SndPs X.K Γ M trs f
section
variable {X : Cx} {Γ : CM} {M : List Mode} {k e : Expr} {ks : List (Option Expr)} {es : List Expr} {tk te : TE} {trs : List (TE × TE)} {f g : Ev} {h : Env → Option (List (Key × D))} {m m' : Mode} {pos : Pos}
def pNil : Env → Option (List (Key × D)) := fun _ => some []
def pCons (f g : Ev) (h : Env → Option (List (Key × D))) : Env → Option (List (Key × D)) := fun δ => (f δ).bind fun a => (keyD a).bind fun k => (g δ).bind fun d => (h δ).map ((k, d) :: ·)
theorem dp_nil : DPs Γ X M pos [] [] [] pNil := ⟨pps_nil, fun S0 H0 S H σ δ Q ps w ef k => by cases ef; exact k [] S H (Ext.refl w.sH) rfl⟩
theorem dp_cons (hk : DE Γ X M k tk f m) (hv : DE Γ X M e te g m') (hr : DPs Γ X M pos ks es trs h) (hm : okS m' = true := by rfl) : DPs Γ X M pos (some k :: ks) (e :: es) ((tk, te) :: trs) (pCons f g h) :=
  ⟨pps_cons hk.pe hv.pe hr.pp, fun S0 H0 S H σ δ Q ps w ef q => by
    obtain ⟨a, e1, e2⟩ := bind_some ef
    obtain ⟨j, e3, e4⟩ := bind_some e2
    obtain ⟨d, e5, e6⟩ := bind_some e4
    cases z : h δ with
    | none => rw [z] at e6; cases e6
    | some r =>
      rw [z] at e6; cases e6
      refine hk.snd S0 H0 S H σ δ _ a w e1 fun v S1 H1 x1 r1 _ => ?_
      have rk : Rep X.K Γ S1 a v := by
        cases a with
        | int i => exact r1.int (w.mono x1).h0
        | str x => exact r1.str (w.mono x1).h0
        | _ => cases e3
      have ev := rk.key e3
      subst ev
      refine (hv.snd.sh hm) S0 H0 S1 H1 σ δ _ d (w.mono x1) e5 fun u S2 H2 x2 r2 _ => ?_
      refine hr.snd S0 H0 S2 H2 σ δ _ r ((w.mono x1).mono x2) z fun kvs S3 H3 x3 r3 => ?_
      exact q ((j, u) :: kvs) S3 H3 ((x1.trans x2).trans x3) ⟨u, kvs, rfl, Rep.mono x3.ss r2, r3⟩⟩
def vDict (h : Env → Option (List (Key × D))) : Ev := fun δ => (h δ).bind fun ps => if ps.length ≤ 15 then some (.dicK (mergeD [] ps)) else none
theorem de_dict (hp : DPs Γ X M pos ks es trs h) (hall : ks.all (·.isSome) = true := by rfl) (hl : ks.length = es.length := by rfl) (h0 : ks ≠ [] := by decide) (h15 : ks.length ≤ 15 := by decide) : DE Γ X M (.Dict ks es pos) (tDisp trs) (vDict h) .ow :=
  ⟨pe_disp hp.pp hall hl h0 h15, fun S0 H0 S H σ δ Q d w ef k => by
    obtain ⟨ps, e1, e2⟩ := bind_some ef
    obtain ⟨hl, rfl⟩ := ite_some e2
    intro p hp'
    refine hp.snd S0 H0 S (upd H p (.dK [])) σ δ _ ps (w.mono (Ext.owned w.sH hp' _)) e1 fun kvs S1 H1 x1 r1 => ?_
    have np : S1 p = none := x1.fr p _ upd_same (w.sH.free hp')
    refine ⟨x1.hh _ _ upd_same, kvs, rfl, by rw [r1.len]; exact hl, ?_⟩
    refine k (.ref p) S1 _ ⟨x1.ss, fun b o hb => ?_, fun b o hb => ?_, fun b o hb nb => ?_⟩ ⟨p, rfl, np, _, upd_same, r1.merge rfl⟩ fun _ a ea => by cases ea; exact hp'
    · have ne : b ≠ p := fun q => by rw [q, hp'] at hb; cases hb
      rw [upd_ne ne]; exact x1.hh _ _ (by rw [upd_ne ne]; exact hb)
    · have ne : b ≠ p := fun q => by rw [q, np] at hb; cases hb
      rw [upd_ne ne]; exact x1.sh _ _ hb
    · have ne : b ≠ p := fun q => by rw [q, hp'] at hb; cases hb
      exact x1.fr b o (by rw [upd_ne ne]; exact hb) nb⟩
theorem de_dicK0 : DE Γ X M (.Dict [] [] pos) tDNewK (vC (.dicK [])) .ow := ⟨pe_dnewK, fun S0 H0 S H σ δ Q d w ef k => by
  cases ef
  intro p hp
  exact k (.ref p) S _ (Ext.owned w.sH hp _) ⟨p, rfl, w.sH.free hp, [], upd_same, rfl⟩ fun _ a ea => by cases ea; exact hp⟩
theorem de_dicT0 : DE Γ X M (.Dict [] [] pos) tDNewT (vC (.dicT [])) .ow := ⟨pe_dnewT, fun S0 H0 S H σ δ Q d w ef k => by
  cases ef
  intro p hp
  exact k (.ref p) S _ (Ext.owned w.sH hp _) ⟨p, rfl, w.sH.free hp, [], upd_same, rfl⟩ fun _ a ea => by cases ea; exact hp⟩
end
/-! ### stores -/
def rSetAny : V → V → V → Hp → (Hp → Prop) → Prop := fun o i v H Q => rSetL o i v H Q ∨ ∃ a H', o = .ref a ∧ DPut H a i v H' ∧ Q H'
theorem set_any {X : Cx} (hu : X.A.units + 64 < cLine) : PSet X rSetAny := by
  intro pins s σ H o i v ov iv u Q I ro ri rv h
  rcases h with h | ⟨a, H', rfl, g, q⟩
  · exact set_list pins s σ H o i v ov iv u Q I ro ri rv h
  · cases ro
    exact d_setItem (by omega) I g ri rv fun s4 I4 => ⟨H', I4, q⟩
def opPut (o k d : D) : Option D := match o with
  | .lst ds => match k with
    | .int i => (ixN ds.length i).map fun j => .lst (ds.set j d)
    | _ => none
  | .dicK kvs => (keyD k).bind fun j => if kvs.length < sizeLine then some (.dicK (putD kvs j d)) else none
  | .dicT kvs => (keysD k).bind fun j => if kvs.length < sizeLine then some (.dicT (putD kvs j d)) else none
  | _ => none
def sPut (i : Nat) (fk fv : Ev) : Sv := fun δ => (fv δ).bind fun d => (fk δ).bind fun k => (vVar i δ).bind fun o => (opPut o k d).map fun o' => .nx (δ.set i (some o'))
section
variable {X : Cx} {Γ : CM} {E : XK} {rm m m' : Mode} {M : List Mode} {e a b : Expr} {te ta tb : TE} {f g : Ev} {pos apos cpos : Pos} {K : PySem.W.Frag}
theorem map_some {α β : Type} {o : Option α} {k : α → β} {d : β} (h : o.map k = some d) : ∃ a, o = some a ∧ k a = d := by
  cases o with
  | none => cases h
  | some a => exact ⟨a, rfl, Option.some.inj h⟩
theorem ds_put {i : Nat} {x : Str} {p : Pos} (hM : md M i = .ow) (hu : X.A.units + 64 < cLine) (hk : DE Γ X M a ta f m) (he : DE Γ X M e te g m') (hm : okS m = true := by rfl) (hm' : okS m' = true := by rfl) (hN : X.N[i]? = some x := by rfl) (hv : Vis X.env.scope x := by first | exact Or.inl rfl | exact Or.inr (Or.inl rfl) | exact Or.inr (Or.inr rfl)) (hd : (x == ("__debug__" : Str)) = false := by decide)
    (hcd : (x == ("__classdict__" : Str)) = false := by decide)
    (ha : ∀ v, assign (.Subscript (.Name x p) a apos) X.env v = (do
      let ov ← holding [v] (eval (.Name x p) X.env)
      let iv ← holding [v, ov] (eval a X.env)
      standAt apos
      holding [v, ov, iv] (setItem ov iv v)
      release [v, ov, iv] []) := by intro _; rfl)
    (hs : swapsWithSole [.Subscript (.Name x p) a apos] e pos.line X.env = pure false := by rfl) (hw : swappedStores [.Subscript (.Name x p) a apos] e X.env = pure none := by rfl)
    (h1 : (assignEach [.Subscript (.Name x p) a apos] X.env).map (·.2) = [assign (.Subscript (.Name x p) a apos) X.env] := by rfl) :
    DS Γ X E rm M (.Assign [.Subscript (.Name x p) a apos] e pos) (tAsg te (gSub (tVar i) ta rSetAny)) (sPut i f g) M :=
  ⟨ps_asg he.pe (pg_sub (pe_var hN hv hd hcd) hk.pe (set_any hu) ha) hs hw h1, fun S0 H0 S H σ δ Dn o w ef k => by
    obtain ⟨d, e1, e2⟩ := bind_some ef
    obtain ⟨kd, e3, e4⟩ := bind_some e2
    obtain ⟨l, e5, e6⟩ := bind_some e4
    obtain ⟨l', e7, rfl⟩ := map_some e6
    refine (he.snd.sh hm') S0 H0 S H σ δ _ d w e1 fun v S1 H1 x1 r1 _ => ?_
    have w1 := w.mono x1
    have hl := vVar_some e5
    obtain ⟨p', hp, hS, top⟩ := w1.owned hM hl
    refine ⟨_, hp, ?_⟩
    refine (hk.snd.sh hm) S0 H0 S1 H1 σ δ _ kd w1 e3 fun u S2 H2 x2 r2 _ => ?_
    have w2 := w1.mono x2
    have hS2 : S2 p' = none := by
      obtain ⟨o, ho⟩ := top.there
      exact x2.fr _ _ ho hS
    have top2 := top.mono x2.ss fun o h => x2.hh _ _ h
    have r1 := Rep.mono x2.ss r1
    have ss : Same S S2 := x1.ss.trans x2.ss
    cases l with
    | lst ds =>
      obtain ⟨vs, hH, hz, rl⟩ := top2
      cases kd with
      | int j =>
        obtain ⟨q, e8, rfl⟩ := map_some e7
        cases (show u = .int j from r2)
        exact .inl ⟨p', vs, j, q, rfl, rfl, hH, by rw [rl.length]; exact e8, k S2 _ σ ss (w2.write hM hl hp ⟨_, upd_same, by rw [List.length_set]; exact hz, rl.set r1 q⟩)⟩
      | _ => cases e7
    | dicK kvs =>
      obtain ⟨vs, hH, rl⟩ := top2
      obtain ⟨j, e8, e9⟩ := bind_some e7
      obtain ⟨hz, rfl⟩ := ite_some e9
      rw [r2.key e8]
      exact .inr ⟨p', _, rfl, DPut.k hH (by rw [rl.len]; exact hz), k S2 _ σ ss (w2.write hM hl hp ⟨_, upd_same, rl.put r1⟩)⟩
    | dicT kvs =>
      obtain ⟨vs, hH, rl⟩ := top2
      obtain ⟨j, e8, e9⟩ := bind_some e7
      obtain ⟨hz, rfl⟩ := ite_some e9
      obtain ⟨b, rfl, hb⟩ := r2.keys e8
      exact .inr ⟨p', _, rfl, DPut.t hH (w2.sH _ _ hb) (by rw [rl.len]; exact hz), k S2 _ σ ss (w2.write hM hl hp ⟨_, upd_same, rl.put r1⟩)⟩
    | _ => cases e7⟩
end
end Dl
/-! sorted(set(xs)) of a list of ints; sorted(xs). -/
namespace Dl
open PySem L2 PySem.Spec PyProof.Rows
abbrev setObj (w : World) : Obj := { cls := .type "set", dict := none, data := .set #[] 0 (.fresh 0 0 (!w.params.followText "set-order")) }
section
variable {P : Program} {w : World} {A : Around} {E : Value → Shared → Prop} {s : Shared}
set_option maxHeartbeats 3200000 in
/-- set(xs), xs a list of ints: a set that can be walked -/
theorem set_of_ints {l : Addr} {items : Array Value} (ns : List Int) {Q : Value → Shared → Prop} (hh : A.handled = none) (hl : s.heap.IsList l items) (hit : IntsAre items.toList ns) (hb : ns.length + 1 < scanBound)
    (h : ∀ (h' : Heap) (tk c : Nat), SetR w h' s.heap.objs.size (fun j => decide (j ∈ ns)) c → c ≤ ns.length → (∀ b o, s.heap.get? b = some o → h'.get? b = some o) → Q (.ref s.heap.objs.size) { s with heap := h', toks := tk }) :
    wpAny (model P w) A (call (.type "set") [.ref l]) Q E s := by
  have sz : items.size = ns.length := by
    rw [← Array.length_toList]
    exact IntsAre.length hit
  obtain ⟨c, tl, hmro⟩ := PySem.F.called_set.mro
  have f1 := PySem.F.called_set.made
  have f2 := PySem.F.called_set.sub
  have f3 := PySem.F.called_set.notType
  have f4 := PySem.F.called_set.canCreate
  have f5 := PySem.F.typeCall_set_1 (.ref l)
  refine wpAny_call (codeAny_of_tree ?_)
  show wpAny _ _ (callAny (.type "set") _) _ _ _
  refine wpAny_pure ⟨Code.quiet_builtin _ (by decide +kernel), codeAny_builtin PySem.F.entry_type_call ?_⟩
  rw [Around.under_plain (weight_type_call_type "set" [.ref l] []) rfl]
  repeat (any_goals (first | assumption | wp_step))
  refine codeAny_mono (code_set_led1 (.ref l) (E := E) (Q₁ := fun o s₁ => o = .ref s.heap.objs.size ∧ s₁ = { s with heap := s.heap.push (setObj w) }) ⟨rfl, rfl⟩) fun r s₁ hr => ?_
  match r, hr with
  | .error e, hr => exact hr
  | .ok (.ret obj), hr =>
    obtain ⟨rfl, rfl⟩ := hr
    have g1 : (s.heap.push (setObj w)).get? s.heap.objs.size = some (setObj w) := Heap.get?_push_size _ rfl
    have g2 : Shared.TypeIs { s with heap := s.heap.push (setObj w) } (.ref s.heap.objs.size) "set" := ⟨_, g1, rfl⟩
    have f6 := PySem.F.called_set.init.lookup
    have f7 := PySem.F.called_set.init.bind (.ref s.heap.objs.size)
    repeat (any_goals (first | assumption | wp_step))
    refine codeAny_mono (codeAny_call_builtin (R := wants (fun r s₂ => r = .none ∧ ∃ h' tk c, s₂ = { s with heap := h', toks := tk } ∧ SetR w h' s.heap.objs.size (fun j => decide (j ∈ ns)) c ∧ c ≤ ns.length ∧
        (∀ b o, s.heap.get? b = some o → h'.get? b = some o)) E) PySem.F.called_set.init.plain PySem.F.entry_set_init (check_set_init_1 g2 ?_)) fun r₂ s₂ hr₂ => ?_
    · obtain ⟨ol, hol, hcl, nl, hdl⟩ := hl
      obtain ⟨ocls, odict, odata, oslots⟩ := ol
      simp only at hcl hdl
      subst hcl hdl
      have hol' : (s.heap.push (setObj w)).get? l = some { cls := .type "list", dict := odict, data := .seq items nl, slots := oslots } := Heap.get?_push_of_some _ hol
      have f8 := PySem.F.sub_list_set
      have f9 := PySem.F.sub_list_frozenset
      have hne : (Value.type "list" == Value.type "dict") = false := by decide
      have hl1 : (s.heap.push (setObj w)).IsList l items := ⟨_, hol', rfl, nl, rfl⟩
      unfold Builtin.«set.__init__» noKeywords Builtin.Frozenset.updateFrom
      generalize hPI : pyIter = PI
      wp_walk
      subst hPI
      refine wpAny_pyIter_list hl1 ?_
      refine wpAny_bind (wpAny_runValue ?_)
      have lS : l < s.heap.objs.size := Heap.lt_size hol
      have hh3 : A.in1.in1.in1.handled = none := by simp [hh]
      have n1 : l ≠ (s.heap.push (setObj w)).objs.size := by rw [Heap.size_push]; exact Nat.ne_of_lt (Nat.lt_succ_of_lt lS)
      have n2 : s.heap.objs.size ∉ [(s.heap.push (setObj w)).objs.size, l] := by
        rw [Heap.size_push]
        simp only [List.mem_cons, List.not_mem_nil, or_false, not_or]
        exact ⟨Nat.ne_of_lt (Nat.lt_succ_self _), Nat.ne_of_gt lS⟩
      have hval : ∀ (i : Nat) (v : Value), items[i]? = some v → ∃ k t, ns[i]? = some k ∧ v = .int k t := fun i v hv => by
        have hi : i < ns.length := by rw [← sz]; exact (Array.getElem?_eq_some_iff.mp hv).1
        obtain ⟨t, e⟩ := IntsAre.int_at hit i v (by rw [Array.getElem?_toList]; exact hv)
        exact ⟨ns[i], t, List.getElem?_eq_getElem hi, by rw [e, List.getD_eq_getElem?_getD, List.getElem?_eq_getElem hi] <;> rfl⟩
      refine set_update_ints ((Walks.list hh3 _ l n1 items).toS) s.heap.objs.size n2 ns sz hb hval (items.size - 0) 0 _ (by omega) (Nat.zero_le _) ⟨⟨_, Heap.get?_push_size _ rfl, rfl, rfl⟩, (hl1.push _)⟩ ?a0 ?aR
      case a0 => exact ⟨0, Nat.le_refl 0, setR_new_at (Heap.get?_push_of_some _ g1)⟩
      case aR =>
        intro s' c' hm hc' hS'
        obtain ⟨h', g', d', tk', os'⟩ := s'
        have eg : g' = s.gens := hm.gens
        have ed : d' = s.drawn := hm.drawn
        have eo : os' = s.os := hm.os
        subst eg ed eo
        show wpAny _ _ _ _ _ _
        refine wpAny_pure ?_
        show wpAny _ _ (ret Value.none) _ _ _
        refine wpAny_pure ⟨rfl, h', tk', c', rfl, hS', by omega, fun b o e => ?_⟩
        have hb0 := Heap.lt_size e
        refine hm.heap b o ?_ (Heap.get?_push_of_some _ (Heap.get?_push_of_some _ e))
        simp only [List.mem_cons, List.not_mem_nil, or_false, not_or]
        refine ⟨Nat.ne_of_lt hb0, ?_⟩
        rw [Heap.size_push]
        exact Nat.ne_of_lt (Nat.lt_succ_of_lt hb0)
    · match r₂, hr₂ with
      | .error e, hr₂ => exact hr₂
      | .ok (.ret r), hr₂ =>
        obtain ⟨rfl, h', tk, c', rfl, hS', hc', hk'⟩ := hr₂
        repeat (any_goals (first | assumption | wp_step))
        exact h _ _ _ hS' hc' hk'
      | .ok .next, hr₂ => exact hr₂.elim
      | .ok .brk, hr₂ => exact hr₂.elim
      | .ok .cont, hr₂ => exact hr₂.elim
  | .ok .next, hr => exact hr.elim
  | .ok .brk, hr => exact hr.elim
  | .ok .cont, hr => exact hr.elim
end

/-! ### sorted(set(xs)) -/
theorem RepL.of_ints {K : PySem.W.Frag} {Γ : CM} {S : Hp} : ∀ ns : List Int, RepL K Γ S (ns.map D.int) (ns.map V.int)
  | [] => rfl
  | n :: ns => ⟨.int n, _, rfl, rfl, RepL.of_ints ns⟩
def insU (x : Int) : List Int → List Int
  | [] => [x]
  | y :: l => if x < y then x :: y :: l else if x = y then y :: l else y :: insU x l
/-- the numbers of a list, rising, each once -/
def setSort (ns : List Int) : List Int := ns.foldr insU []
theorem mem_insU {x k : Int} : ∀ {l : List Int}, k ∈ insU x l ↔ k = x ∨ k ∈ l
  | [] => by simp [insU]
  | y :: l => by
    unfold insU
    split
    · simp
    · split
      · rename_i h; subst h; simp
      · rw [List.mem_cons, mem_insU (l := l), List.mem_cons]
        constructor
        · rintro (h | h | h)
          · exact .inr (.inl h)
          · exact .inl h
          · exact .inr (.inr h)
        · rintro (h | h | h)
          · exact .inr (.inl h)
          · exact .inl h
          · exact .inr (.inr h)
theorem insU_ris {x : Int} : ∀ {l : List Int}, l.Pairwise (· < ·) → (insU x l).Pairwise (· < ·)
  | [], _ => by simp [insU]
  | y :: l, h => by
    obtain ⟨h1, h2⟩ := List.pairwise_cons.mp h
    unfold insU
    split
    · rename_i c
      refine List.pairwise_cons.mpr ⟨fun z hz => ?_, h⟩
      rcases List.mem_cons.mp hz with e | hz
      · omega
      · have := h1 z hz; omega
    · split
      · exact h
      · rename_i c d
        refine List.pairwise_cons.mpr ⟨fun z hz => ?_, insU_ris h2⟩
        rcases mem_insU.mp hz with e | hz
        · omega
        · exact h1 z hz
theorem setSort_mem {k : Int} : ∀ {ns : List Int}, k ∈ setSort ns ↔ k ∈ ns
  | [] => Iff.rfl
  | n :: ns => by
    show k ∈ insU n (setSort ns) ↔ _
    rw [mem_insU, setSort_mem (ns := ns), List.mem_cons]
theorem setSort_ris : ∀ ns : List Int, (setSort ns).Pairwise (· < ·)
  | [] => .nil
  | n :: ns => insU_ris (setSort_ris ns)
theorem ris_eq : ∀ {l m : List Int}, l.Pairwise (· < ·) → m.Pairwise (· < ·) → (∀ k, k ∈ l ↔ k ∈ m) → l = m
  | [], [], _, _, _ => rfl
  | [], y :: m, _, _, h => absurd ((h y).mpr List.mem_cons_self) (by simp)
  | x :: l, [], _, _, h => absurd ((h x).mp List.mem_cons_self) (by simp)
  | x :: l, y :: m, hl, hm, h => by
    obtain ⟨l1, l2⟩ := List.pairwise_cons.mp hl
    obtain ⟨m1, m2⟩ := List.pairwise_cons.mp hm
    have e : x = y := by
      have a := (h x).mp List.mem_cons_self
      have b := (h y).mpr List.mem_cons_self
      rcases List.mem_cons.mp a with a | a
      · exact a
      · rcases List.mem_cons.mp b with b | b
        · exact b.symm
        · have := m1 x a; have := l1 y b; omega
    subst e
    rw [ris_eq l2 m2 fun k => ?_]
    constructor
    · intro hk
      rcases List.mem_cons.mp ((h k).mp (List.mem_cons_of_mem _ hk)) with e | q
      · have := l1 k hk; omega
      · exact q
    · intro hk
      rcases List.mem_cons.mp ((h k).mpr (List.mem_cons_of_mem _ hk)) with e | q
      · have := m1 k hk; omega
      · exact q
theorem setSort_eq {l ns : List Int} (r : l.Pairwise (· < ·)) (h : ∀ k, k ∈ l ↔ k ∈ ns) : setSort ns = l :=
  ris_eq (setSort_ris ns) r fun k => by rw [setSort_mem, h]
section
variable {X : Cx} {Γ : CM} {M : List Mode} {a : Expr} {ta : TE} {f : Ev} {m : Mode}
def tSortSet (K : PySem.W.Frag) (ta : TE) : TE := fun σ H Q => ta σ H fun x H1 => ∃ (l : Addr) (ns : List Int), x = .ref l ∧ SqL K H1 l (ns.map V.int) ∧ ns.length < 64 ∧
  ∀ (b : Addr) (o : HO) (p : Addr), H1 b = none → upd H1 b o p = none → Q (.ref p) (upd (upd H1 b o) p (.lst ((setSort ns).map V.int)))
theorem pe_sortSet {p p2 q pos : Pos} (hc : X.calm = true) (hg : Gl X "sorted") (hm : X.mg "sorted" = none) (hg2 : Gl X "set") (hm2 : X.mg "set" = none) (ha : PE X a ta)
    (na : starEach [a] X.env = (false, eval a X.env) :: starEach [] X.env := by rfl) : PE X (.Call (.Name "sorted" p) [.Call (.Name "set" p2) [a] [] q] [] pos) (tSortSet X.K ta) := by
  refine ⟨fun pins s σ H Q I h => ?_⟩
  refine PyProof.Rows.Call_ (ld_blt I hg hm PyProof.Rows.boot_sorted ?_)
  refine PyProof.Rows.callWith_builtin1 (PyProof.Rows.args_cons ?_ rfl) rfl rfl
  refine PyProof.Rows.Call_ (ld_blt I hg2 hm2 PyProof.Rows.boot_set ?_)
  refine PyProof.Rows.callWith_type1 (PyProof.Rows.args_cons (thn (ha.run pins s σ H _ I h) fun v s1 ⟨x, H1, I1, r1, q1⟩ => PyProof.Rows.args_nil ?_) na) na rfl
  obtain ⟨l, ns, rfl, hq, h64, q1⟩ := q1
  cases r1
  obtain ⟨its, r, pl, hz⟩ := I1.list hq
  refine set_of_ints ns (I1.ok.hd hc) pl.isList (by simpa using r.ints) (by unfold scanBound; omega) fun h' tk c hS hcl hk => ?_
  have I2 : Inv X pins σ (upd H1 s1.heap.objs.size (SetO X.w s1.heap.objs.size (fun j => decide (j ∈ ns)) c)) { s1 with heap := h', toks := tk } := I1.laid (t' := tk) hk (Nat.le_refl _) (setO_new hS)
  refine PyProof.Rows.args_nil ?_
  refine cr_sortedSet hc pins _ σ _ [.ref s1.heap.objs.size] _ Q I2 (.cons rfl .nil) ⟨_, _, c, rfl, upd_same, by omega, fun ms p ris mem len hp => ?_⟩
  have e : ms = setSort ns := (setSort_eq ris fun k => by rw [mem k, decide_eq_true_iff]).symm
  subst e
  exact q1 _ _ p (I1.hok.fresh (Nat.le_refl _)) hp
def vSortSet (f : Ev) : Ev := fun δ => (f δ).bind fun d => match d with
  | .lst ds => (intsOf ds).bind fun ns => if ns.length < 64 then some (.lst ((setSort ns).map D.int)) else none
  | _ => none
theorem insU_len (x : Int) : ∀ l : List Int, (insU x l).length ≤ l.length + 1
  | [] => by simp [insU]
  | y :: l => by
    have := insU_len x l
    unfold insU
    split
    · simp
    · split
      · simp
      · rw [List.length_cons, List.length_cons]; omega
theorem setSort_len : ∀ ns : List Int, (setSort ns).length ≤ ns.length
  | [] => Nat.le_refl _
  | n :: ns => by
    have a := insU_len n (setSort ns)
    have b := setSort_len ns
    show (insU n (setSort ns)).length ≤ ns.length + 1
    omega
theorem de_sortSet {p p2 q pos : Pos} (K : PySem.W.Frag) (hc : X.calm = true) (hm : X.mg "sorted" = none) (hm2 : X.mg "set" = none) (ha : DE Γ X M a ta f m) (hg : Gl X "sorted" := by rfl) (hg2 : Gl X "set" := by rfl)
    (na : starEach [a] X.env = (false, eval a X.env) :: starEach [] X.env := by rfl) (hK : X.K = K := by rfl) : DE Γ X M (.Call (.Name "sorted" p) [.Call (.Name "set" p2) [a] [] q] [] pos) (tSortSet K ta) (vSortSet f) .ow := by
  subst hK
  exact ⟨pe_sortSet hc hg hm hg2 hm2 ha.pe na, fun S0 H0 S H σ δ Q d w ef k => by
    obtain ⟨l, e1, e2⟩ := bind_some ef
    cases l with
    | lst ds =>
      obtain ⟨ns, e3, e4⟩ := bind_some e2
      obtain ⟨h64, rfl⟩ := ite_some e4
      refine ha.snd S0 H0 S H σ δ _ _ w e1 fun v S1 H1 x1 r1 _ => ?_
      obtain ⟨p, vs, ev, hp, hl, rl⟩ := r1.lst x1.sh (w.mono x1).h0
      refine ⟨p, ns, ev, by rw [← rl.intsOf e3]; exact SqL.of hp, h64, fun b o p2 hb hp2 => ?_⟩
      have xb := Ext.owned x1.sh hb o
      exact (k.ext (x1.trans xb)).newL rfl xb.sh (by rw [List.length_map]; have := setSort_len ns; exact le1000 (by omega)) (RepL.of_ints _) hp2
    | _ => cases e2⟩
end
end Dl
/-! plain laws of the denotations: evaluation by simp, loops by simulation. -/
namespace Dl
open PySem L2
section
@[simp] theorem vVar_def (i : Nat) (δ : Env) : vVar i δ = (δ[i]?).join := rfl
@[simp] theorem vC_def (d : D) (δ : Env) : vC d δ = some d := rfl
@[simp] theorem v2_def (o : D → D → Option D) (f g : Ev) (δ : Env) : v2 o f g δ = (f δ).bind fun a => (g δ).bind fun b => o a b := rfl
@[simp] theorem vTst_def (f : Ev) (δ : Env) : vTst f δ = (f δ).bind fun d => match d with | .bl b => some b | _ => none := rfl
@[simp] theorem vChain_def (o o' : D → D → Option D) (f g h : Ev) (δ : Env) : vChain o o' f g h δ = (f δ).bind fun a => (g δ).bind fun b => (o a b).bind fun d => match d with
  | .bl c => if c = true then (h δ).bind fun c => o' b c else some (.bl false)
  | _ => none := by
  unfold vChain
  congr 1; funext a; congr 1; funext b; congr 1; funext d
  cases d with
  | bl c => cases c <;> rfl
  | _ => rfl
@[simp] theorem bAnd_def (p q : Env → Option Bool) (δ : Env) : bAnd p q δ = (p δ).bind fun b => if b = true then q δ else some false := rfl
@[simp] theorem bOr_def (p q : Env → Option Bool) (δ : Env) : bOr p q δ = (p δ).bind fun b => if b = true then some true else q δ := rfl
@[simp] theorem bNot_def (p : Env → Option Bool) (δ : Env) : bNot p δ = (p δ).map (!·) := rfl
@[simp] theorem vAnd_def (f g : Ev) (δ : Env) : vAnd f g δ = (vTst f δ).bind fun b => if b = true then g δ else some (.bl false) := rfl
@[simp] theorem vOr_def (f g : Ev) (δ : Env) : vOr f g δ = (vTst f δ).bind fun b => if b = true then some (.bl true) else g δ := rfl
@[simp] theorem vNot_def (f : Ev) (δ : Env) : vNot f δ = (vTst f δ).map fun b => .bl (!b) := rfl
@[simp] theorem vIf_def (p : Env → Option Bool) (f g : Ev) (δ : Env) : vIf p f g δ = (p δ).bind fun b => if b = true then f δ else g δ := rfl
@[simp] theorem vNeg_def (f : Ev) (δ : Env) : vNeg f δ = (f δ).bind fun d => match d with | .int i => some (.int (-i)) | _ => none := rfl
@[simp] theorem aNil_def (δ : Env) : aNil δ = some [] := rfl
@[simp] theorem aCons_def (f : Ev) (g : Env → Option (List D)) (δ : Env) : aCons f g δ = (f δ).bind fun d => (g δ).map (d :: ·) := rfl
@[simp] theorem vLst_def (f : Env → Option (List D)) (δ : Env) : vLst f δ = (f δ).bind fun ds => if ds.length ≤ 1000 then some (.lst ds) else none := rfl
@[simp] theorem vTup_def (f : Env → Option (List D)) (δ : Env) : vTup f δ = (f δ).bind fun ds => if ds.length ≤ 1000 then some (.tup ds) else none := rfl
@[simp] theorem vFld_def (x : Str) (f : Ev) (δ : Env) : vFld x f δ = (f δ).bind fun d => match d with | .ins _ fs => fs.lookup x | _ => none := rfl
@[simp] theorem vC1_def (op : List D → Option D) (f : Env → Option (List D)) (δ : Env) : vC1 op f δ = (f δ).bind op := rfl
@[simp] theorem vPart_def (f : Ev) (δ : Env) : vPart f δ = (f δ).bind fun d => match d with | .int i => some (some i) | _ => none := rfl
@[simp] theorem vSl_def (o : D → Option Int → Option Int → Option D) (f : Ev) (l u : Env → Option (Option Int)) (δ : Env) : vSl o f l u δ = (f δ).bind fun d => (l δ).bind fun lo => (u δ).bind fun hi => o d lo hi := rfl
@[simp] theorem sNext_def (δ : Env) : sNext δ = some (.nx δ) := rfl
@[simp] theorem sSeq_def (s s' : Sv) (δ : Env) : sSeq s s' δ = (s δ).bind fun o => match o with | .nx δ' => s' δ' | o => some o := rfl
@[simp] theorem sSet_def (i : Nat) (f : Ev) (δ : Env) : sSet i f δ = (f δ).map fun d => .nx (δ.set i (some d)) := rfl
@[simp] theorem sRet_def (f : Ev) (δ : Env) : sRet f δ = (f δ).map .rt := rfl
@[simp] theorem sRetN_def (δ : Env) : sRetN δ = some (.rt .non) := rfl
@[simp] theorem sIf_def (p : Env → Option Bool) (s s' : Sv) (δ : Env) : sIf p s s' δ = (p δ).bind fun b => if b = true then s δ else s' δ := rfl
@[simp] theorem sExpr_def (f : Ev) (δ : Env) : sExpr f δ = (f δ).map fun _ => .nx δ := rfl
@[simp] theorem sAsg_def (f : Ev) (h : Hv) (δ : Env) : sAsg f h δ = (f δ).bind fun d => (h d δ).map .nx := rfl
@[simp] theorem sFor_def (it : Env → Option (List D)) (set : Hv) (body : Sv) (δ : Env) : sFor it set body δ = (it δ).bind fun ds => forD set body ds δ := rfl
@[simp] theorem hName_def (i : Nat) (d : D) (δ : Env) : hName i d δ = some (δ.set i (some d)) := rfl
@[simp] theorem hTup_def (n : Nat) (hs : List D → Env → Option Env) (ds : List D) (δ : Env) : hTup n hs (.tup ds) δ = if ds.length = n then hs ds δ else none := rfl
@[simp] theorem hCons_def (h : Hv) (hs : List D → Env → Option Env) (d : D) (ds : List D) (δ : Env) : hCons h hs (d :: ds) δ = (h d δ).bind (hs ds) := rfl
@[simp] theorem hNil_def (δ : Env) : hNil [] δ = some δ := rfl
@[simp] theorem iAnyF_def (f : Ev) (δ : Env) : iAnyF f δ = (f δ).bind itemsD := rfl
@[simp] theorem itemsD_lst (ds : List D) : itemsD (.lst ds) = some ds := rfl
@[simp] theorem itemsD_tup (ds : List D) : itemsD (.tup ds) = some ds := rfl
@[simp] theorem itemsD_scr (ns : List Int) : itemsD (.scr ns) = some (ns.map D.int) := rfl
@[simp] theorem itemsD_str (x : Str) : itemsD (.str x) = some (signs x) := rfl
@[simp] theorem vLc_def (it : Env → Option (List D)) (set : Hv) (p : Env → Option Bool) (elt : Ev) (vs : List Nat) (δ : Env) : vLc it set p elt vs δ = (it δ).bind fun ds => (lcD set p elt (wipeE δ vs) ds).map .lst := rfl
@[simp] theorem tsYes_def (δ : Env) : tsYes δ = some true := rfl
@[simp] theorem wipeE_nil (δ : Env) : wipeE δ [] = δ := rfl
@[simp] theorem wipeE_cons (δ : Env) (v : Nat) (vs : List Nat) : wipeE δ (v :: vs) = (wipeE δ vs).set v none := rfl
@[simp] theorem opI_ii (g : Int → Int → Option D) (i j : Int) : opI g (.int i) (.int j) = g i j := rfl
@[simp] theorem opAdd_ii (i j : Int) : opAdd (.int i) (.int j) = some (.int (i + j)) := rfl
@[simp] theorem opAdd_ss (a b : Str) : opAdd (.str a) (.str b) = if a.length + b.length ≤ sizeLine then some (.str (a ++ b)) else none := rfl
@[simp] theorem opSub_ii (i j : Int) : opSub (.int i) (.int j) = some (.int (i - j)) := rfl
@[simp] theorem opMulI_ii (i j : Int) : opMulI (.int i) (.int j) = if mulOk i j then some (.int (i * j)) else none := rfl
@[simp] theorem opMod_ii (i j : Int) : opMod (.int i) (.int j) = if 0 < j then some (.int (i % j)) else none := rfl
@[simp] theorem opDiv_ii (i j : Int) : opDiv (.int i) (.int j) = if 0 < j ∧ j < 1073741824 then some (.int (i / j)) else none := rfl
@[simp] theorem opPow_ii (i j : Int) : opPow (.int i) (.int j) = if 0 ≤ j ∧ j ≤ 1000000 ∧ i.natAbs < 2 ^ 64 then some (.int (i ^ j.toNat)) else none := rfl
@[simp] theorem opLt_ii (i j : Int) : opLt (.int i) (.int j) = some (.bl (decide (i < j))) := rfl
@[simp] theorem opLe_ii (i j : Int) : opLe (.int i) (.int j) = some (.bl (decide (i ≤ j))) := rfl
@[simp] theorem opGt_ii (i j : Int) : opGt (.int i) (.int j) = some (.bl (decide (j < i))) := rfl
@[simp] theorem opGe_ii (i j : Int) : opGe (.int i) (.int j) = some (.bl (decide (j ≤ i))) := rfl
@[simp] theorem opIs_non (a : D) : opIs a .non = some (.bl (isNon a)) := by cases a <;> rfl
@[simp] theorem opNot_non (a : D) : opNot a .non = some (.bl (!isNon a)) := by cases a <;> rfl
@[simp] theorem isNon_non : isNon .non = true := rfl
@[simp] theorem isNon_int (i : Int) : isNon (.int i) = false := rfl
@[simp] theorem isNon_str (i : Str) : isNon (.str i) = false := rfl
@[simp] theorem isNon_bl (i : Bool) : isNon (.bl i) = false := rfl
@[simp] theorem isNon_tup (i : List D) : isNon (.tup i) = false := rfl
@[simp] theorem isNon_lst (i : List D) : isNon (.lst i) = false := rfl
@[simp] theorem opLen_lst (ds : List D) : opLen [.lst ds] = some (.int ds.length) := rfl
@[simp] theorem opLen_tup (ds : List D) : opLen [.tup ds] = some (.int ds.length) := rfl
@[simp] theorem opLen_scr (ns : List Int) : opLen [.scr ns] = some (.int ns.length) := rfl
@[simp] theorem opLen_str (x : Str) : opLen [.str x] = some (.int x.length) := rfl
@[simp] theorem opIx_lst (ds : List D) (i : Int) : opIx (.lst ds) (.int i) = atI ds i := rfl
@[simp] theorem opIx_tup (ds : List D) (i : Int) : opIx (.tup ds) (.int i) = atI ds i := rfl
@[simp] theorem opIx_ktup (ds : List D) (i : Int) : opIx (.ktup ds) (.int i) = atI ds i := rfl
@[simp] theorem opIx_scr (ns : List Int) (i : Int) : opIx (.scr ns) (.int i) = (atI ns i).map D.int := rfl
@[simp] theorem opIx_str (z : Str) (i : Int) : opIx (.str z) (.int i) = (atI z.cps.toList i).map fun c => D.str ⟨#[c]⟩ := rfl
end
/-! ### items -/
theorem atI_some {α : Type} {l : List α} {i : Int} (h0 : 0 ≤ i) (h1 : i < l.length) : atI l i = l[i.toNat]? := by
  have e : i = ((i.toNat : Nat) : Int) := by omega
  have hj : i.toNat < l.length := by omega
  rw [e, atI_nat (List.getElem?_eq_getElem hj)]
  rw [Int.toNat_natCast, List.getElem?_eq_getElem hj]
@[simp] theorem atI_0 {α : Type} (a : α) (l : List α) : atI (a :: l) 0 = some a := atI_nat (j := 0) rfl
@[simp] theorem atI_1 {α : Type} (a b : α) (l : List α) : atI (a :: b :: l) 1 = some b := atI_nat (j := 1) rfl
@[simp] theorem atI_2 {α : Type} (a b c : α) (l : List α) : atI (a :: b :: c :: l) 2 = some c := atI_nat (j := 2) rfl
@[simp] theorem atI_3 {α : Type} (a b c d : α) (l : List α) : atI (a :: b :: c :: d :: l) 3 = some d := atI_nat (j := 3) rfl
@[simp] theorem atI_4 {α : Type} (a b c d e : α) (l : List α) : atI (a :: b :: c :: d :: e :: l) 4 = some e := atI_nat (j := 4) rfl
/-! ### equality -/
@[simp] theorem opEq_ii (a b : Int) : opEq (.int a) (.int b) = some (.bl (a == b)) := rfl
@[simp] theorem opEq_ss (a b : Str) : opEq (.str a) (.str b) = some (.bl (a == b)) := rfl
@[simp] theorem opEq_bb (a b : Bool) : opEq (.bl a) (.bl b) = some (.bl (a == b)) := rfl
@[simp] theorem opNe_ii (a b : Int) : opNe (.int a) (.int b) = some (.bl (!(a == b))) := rfl
@[simp] theorem opNe_ss (a b : Str) : opNe (.str a) (.str b) = some (.bl (!(a == b))) := rfl
@[simp] theorem opNe_bb (a b : Bool) : opNe (.bl a) (.bl b) = some (.bl (!(a == b))) := rfl
@[simp] theorem opEq_in (a : Int) : opEq (.int a) .non = some (.bl false) := rfl
@[simp] theorem opEq_ni (a : Int) : opEq .non (.int a) = some (.bl false) := rfl
@[simp] theorem opNe_in (a : Int) : opNe (.int a) .non = some (.bl true) := rfl
@[simp] theorem opNe_ni (a : Int) : opNe .non (.int a) = some (.bl true) := rfl
@[simp] theorem opEq_nn : opEq .non .non = some (.bl true) := rfl
@[simp] theorem opNe_nn : opNe .non .non = some (.bl false) := rfl
/-- plain data of a depth -/
def fitN (n : Nat) (d : D) : Prop := d.py.plain = true ∧ d.py.depth ≤ n
theorem fit_int (i : Int) (n : Nat) : fitN n (.int i) := ⟨rfl, Nat.zero_le _⟩
theorem fit_str (i : Str) (n : Nat) : fitN n (.str i) := ⟨rfl, Nat.zero_le _⟩
theorem fit_bl (i : Bool) (n : Nat) : fitN n (.bl i) := ⟨rfl, Nat.zero_le _⟩
theorem fit_non (n : Nat) : fitN n .non := ⟨rfl, Nat.zero_le _⟩
theorem fit_all {n : Nat} : ∀ {ds : List D}, (∀ d ∈ ds, fitN n d) → PyData.plainAll (D.pyL ds) = true ∧ PyData.depthAll (D.pyL ds) ≤ n
  | [], _ => ⟨rfl, Nat.zero_le _⟩
  | d :: ds, h => by
    obtain ⟨a, b⟩ := fit_all fun x hx => h x (List.mem_cons_of_mem _ hx)
    obtain ⟨c, e⟩ := h d List.mem_cons_self
    exact ⟨by show (d.py.plain && _) = true; rw [c, a]; rfl, by show max d.py.depth _ ≤ n; omega⟩
theorem fit_lst {n : Nat} {ds : List D} (h : ∀ d ∈ ds, fitN n d) : fitN (n + 1) (.lst ds) := ⟨(fit_all h).1, Nat.succ_le_succ (fit_all h).2⟩
theorem fit_tup {n : Nat} {ds : List D} (h : ∀ d ∈ ds, fitN n d) : fitN (n + 1) (.tup ds) := ⟨(fit_all h).1, Nat.succ_le_succ (fit_all h).2⟩
theorem cmpOk_of {n : Nat} {a b : D} (ha : fitN n a) (hb : fitN n b) (hn : n ≤ 60) : cmpOk a b = true := by
  unfold cmpOk
  rw [ha.1, hb.1, decide_eq_true (by have := ha.2; omega)]
  rfl
theorem eqv_refl {d : D} (h : d.py.plain = true) : D.eqv d d = true := PySem.SeqAt.eqv_refl_plain _ h
theorem opNe_self {n : Nat} {d : D} (h : fitN n d) (hn : n ≤ 60) : opNe d d = some (.bl false) := by
  unfold opNe
  rw [if_pos (cmpOk_of h h hn), eqv_refl h.1]
  rfl
theorem opEq_self {n : Nat} {d : D} (h : fitN n d) (hn : n ≤ 60) : opEq d d = some (.bl true) := by
  unfold opEq
  rw [if_pos (cmpOk_of h h hn), eqv_refl h.1]
/-! ### comprehensions -/
theorem lcD_map {α : Type} {i : Nat} {p : Env → Option Bool} {elt : Ev} {δ : Env} {enc : α → D} {P : α → Bool} {g : α → D} : ∀ {xs : List α}, (∀ x ∈ xs, p (δ.set i (some (enc x))) = some (P x)) → (∀ x ∈ xs, P x = true → elt (δ.set i (some (enc x))) = some (g x)) →
    lcD (hName i) p elt δ (xs.map enc) = some ((xs.filter P).map g)
  | [], _, _ => rfl
  | x :: xs, h1, h2 => by
    have ih := lcD_map (xs := xs) (fun y hy => h1 y (List.mem_cons_of_mem _ hy)) (fun y hy => h2 y (List.mem_cons_of_mem _ hy))
    show ((hName i (enc x) δ).bind fun δ1 => (p δ1).bind fun b => if b = true then (elt δ1).bind fun y => (lcD (hName i) p elt δ (xs.map enc)).map (y :: ·) else lcD (hName i) p elt δ (xs.map enc)) = _
    rw [hName_def, Option.bind_some, h1 x List.mem_cons_self, Option.bind_some, ih]
    cases q : P x with
    | true => rw [if_pos rfl, h2 x List.mem_cons_self q, List.filter_cons_of_pos q]; rfl
    | false => rw [if_neg Bool.false_ne_true, List.filter_cons_of_neg (by rw [q]; exact Bool.false_ne_true)]
/-- no test -/
theorem lcD_map' {α : Type} {i : Nat} {elt : Ev} {δ : Env} {enc : α → D} {g : α → D} {xs : List α} (h2 : ∀ x ∈ xs, elt (δ.set i (some (enc x))) = some (g x)) : lcD (hName i) tsYes elt δ (xs.map enc) = some (xs.map g) := by
  have h := lcD_map (p := tsYes) (P := fun _ => true) (i := i) (δ := δ) (enc := enc) (xs := xs) (fun _ _ => rfl) (fun x hx _ => h2 x hx)
  rw [h, List.filter_eq_self.mpr (fun _ _ => rfl)]
/-- each element is of a kind -/
theorem lcD_each {β : Type} {set : Hv} {elt : Ev} {δ : Env} {enc : β → D} : ∀ {ds : List D}, (∀ d ∈ ds, ∃ δ1, set d δ = some δ1 ∧ ∃ y : β, elt δ1 = some (enc y)) → ∃ ys : List β, lcD set tsYes elt δ ds = some (ys.map enc) ∧ ys.length = ds.length
  | [], _ => ⟨[], rfl, rfl⟩
  | d :: ds, h => by
    obtain ⟨ys, e, l⟩ := lcD_each (ds := ds) fun x hx => h x (List.mem_cons_of_mem _ hx)
    obtain ⟨δ1, e1, y, e2⟩ := h d List.mem_cons_self
    refine ⟨y :: ys, ?_, by rw [List.length_cons, List.length_cons, l]⟩
    show ((set d δ).bind fun δ1 => (tsYes δ1).bind fun b => if b = true then (elt δ1).bind fun y => (lcD set tsYes elt δ ds).map (y :: ·) else lcD set tsYes elt δ ds) = _
    rw [e1, Option.bind_some, tsYes_def, Option.bind_some, if_pos rfl, e2, Option.bind_some, e]
    rfl
theorem mem_rngD {lo : Int} {n : Nat} {d : D} (h : d ∈ rngD lo n) : ∃ k : Int, d = .int k ∧ lo ≤ k ∧ k < lo + n := by
  unfold rngD at h
  obtain ⟨i, hi, e⟩ := List.mem_map.mp h
  have := List.mem_range.mp hi
  exact ⟨lo + i, e.symm, by omega, by omega⟩
/-! ### loops -/
theorem forD_sim {α σ : Type} {set : Hv} {body : Sv} {enc : α → D} (R : σ → Env → Prop) (step : σ → α → σ) : ∀ {xs : List α} {s : σ} {δ : Env}, R s δ → (∀ s δ x, x ∈ xs → R s δ → ∃ δ1 δ2, set (enc x) δ = some δ1 ∧ body δ1 = some (.nx δ2) ∧ R (step s x) δ2) →
    ∃ δ', forD set body (xs.map enc) δ = some (.nx δ') ∧ R (xs.foldl step s) δ'
  | [], s, δ, r, _ => ⟨δ, rfl, r⟩
  | x :: xs, s, δ, r, h => by
    obtain ⟨δ1, δ2, e1, e2, r2⟩ := h s δ x List.mem_cons_self r
    obtain ⟨δ', e3, r3⟩ := forD_sim R step (xs := xs) r2 fun s δ y hy => h s δ y (List.mem_cons_of_mem _ hy)
    refine ⟨δ', ?_, r3⟩
    show ((set (enc x) δ).bind fun δ1 => (body δ1).bind fun o => match o with | .nx δ2 => forD set body (xs.map enc) δ2 | o => some o) = _
    rw [e1, Option.bind_some, e2]
    exact e3
theorem denOf_some {n np : Nat} {rm : Mode} {s : Sv} {ds : List D} {d : D} (hl : ds.length = np) (h : s (ds.map some ++ List.replicate (n - np) none) = some (.rt d)) : denOf n np rm s ds = some d := by
  unfold denOf
  rw [if_pos hl, h]
  rfl

theorem eqv_nil : ∀ {ds : List D}, D.eqv (.lst ds) (.lst []) = ds.isEmpty
  | [] => rfl
  | d :: ds => rfl
theorem cmpOk_nil {n : Nat} {ds : List D} (h : ∀ d ∈ ds, fitN n d) : cmpOk (.lst ds) (.lst []) = true := by
  unfold cmpOk
  rw [(fit_lst h).1, show (D.lst []).py.plain = true from rfl, decide_eq_true (by show min _ 1 ≤ 60; omega)]
  rfl
theorem opNe_nil {n : Nat} {ds : List D} (h : ∀ d ∈ ds, fitN n d) : opNe (.lst ds) (.lst []) = some (.bl (!ds.isEmpty)) := by
  unfold opNe
  rw [if_pos (cmpOk_nil h), eqv_nil]
theorem opEq_nil {n : Nat} {ds : List D} (h : ∀ d ∈ ds, fitN n d) : opEq (.lst ds) (.lst []) = some (.bl ds.isEmpty) := by
  unfold opEq
  rw [if_pos (cmpOk_nil h), eqv_nil]
theorem intsOf_map (xs : List Int) : intsOf (xs.map D.int) = some xs := by
  induction xs with
  | nil => rfl
  | cons x xs ih => show (intsOf (xs.map D.int)).map (x :: ·) = _; rw [ih]; rfl
theorem opMin_ints {xs : List Int} (h : xs ≠ []) : opMin [.lst (xs.map D.int)] = some (.int (minL xs)) := by
  show (intsOf (xs.map D.int)).bind _ = _
  rw [intsOf_map, Option.bind_some, if_neg h]
theorem opMax_ints {xs : List Int} (h : xs ≠ []) : opMax [.lst (xs.map D.int)] = some (.int (maxL xs)) := by
  show (intsOf (xs.map D.int)).bind _ = _
  rw [intsOf_map, Option.bind_some, if_neg h]
theorem opNe_ints (xs : List Int) : opNe (.lst (xs.map D.int)) (.lst []) = some (.bl (!xs.isEmpty)) := by
  rw [opNe_nil (n := 0) (fun d hd => by obtain ⟨x, _, rfl⟩ := List.mem_map.mp hd; exact fit_int _ _)]
  cases xs <;> rfl
@[simp] theorem opNe_nil_nil : opNe (.lst []) (.lst []) = some (.bl false) := opNe_self (n := 1) ⟨rfl, Nat.le_refl _⟩ (by decide)
@[simp] theorem opEq_nil_nil : opEq (.lst []) (.lst []) = some (.bl true) := opEq_self (n := 1) ⟨rfl, Nat.le_refl _⟩ (by decide)
@[simp] theorem opIsi_ty (d : D) (n : String) : opIsi [d, .ty n] = (tyName d).bind fun a => if kitB a n = some (isiB a n) then some (.bl (isiB a n)) else none := rfl
@[simp] theorem kit_int_int : kitB "int" "int" = some true := by decide +kernel
@[simp] theorem kit_int_bool : kitB "int" "bool" = some false := by decide +kernel
@[simp] theorem kit_bool_int : kitB "bool" "int" = some true := by decide +kernel
@[simp] theorem kit_bool_bool : kitB "bool" "bool" = some true := by decide +kernel
@[simp] theorem kit_str_str : kitB "str" "str" = some true := by decide +kernel
@[simp] theorem kit_str_int : kitB "str" "int" = some false := by decide +kernel
@[simp] theorem kit_str_bool : kitB "str" "bool" = some false := by decide +kernel
@[simp] theorem kit_tup_tup : kitB "tuple" "tuple" = some true := by decide +kernel
@[simp] theorem kit_lst_lst : kitB "list" "list" = some true := by decide +kernel
@[simp] theorem isi_int_int : isiB "int" "int" = true := by decide +kernel
@[simp] theorem isi_int_bool : isiB "int" "bool" = false := by decide +kernel
@[simp] theorem isi_bool_int : isiB "bool" "int" = true := by decide +kernel
@[simp] theorem isi_bool_bool : isiB "bool" "bool" = true := by decide +kernel
@[simp] theorem isi_str_str : isiB "str" "str" = true := by decide +kernel
@[simp] theorem isi_str_int : isiB "str" "int" = false := by decide +kernel
@[simp] theorem isi_str_bool : isiB "str" "bool" = false := by decide +kernel
@[simp] theorem isi_tup_tup : isiB "tuple" "tuple" = true := by decide +kernel
@[simp] theorem isi_lst_lst : isiB "list" "list" = true := by decide +kernel
@[simp] theorem tyName_int (i : Int) : tyName (.int i) = some "int" := rfl
@[simp] theorem tyName_str (i : Str) : tyName (.str i) = some "str" := rfl
@[simp] theorem tyName_bl (i : Bool) : tyName (.bl i) = some "bool" := rfl
@[simp] theorem tyName_non : tyName .non = some "NoneType" := rfl
@[simp] theorem tyName_tup (i : List D) : tyName (.tup i) = some "tuple" := rfl
@[simp] theorem tyName_lst (i : List D) : tyName (.lst i) = some "list" := rfl
@[simp] theorem opList_lst (ds : List D) : opList [.lst ds] = some (.lst ds) := rfl
@[simp] theorem iRngF1_def (f : Env → Option (List D)) (δ : Env) : iRngF1 f δ = (f δ).bind fun ds => match ds with | [.int j] => if -1000000 ≤ j ∧ j ≤ 1000000 then some (rngD 0 j.toNat) else none | _ => none := rfl
@[simp] theorem vFmt_def (f : Ev) (δ : Env) : vFmt f δ = (f δ).bind fun d => match d with
  | .str x => some (.str x)
  | .int i => if i.natAbs.log2 < 1920 ∧ (intStr i).length ≤ sizeLine then some (.str (intStr i)) else none
  | _ => none := rfl
@[simp] theorem vJoined_def (fs : List Ev) (δ : Env) : vJoined fs δ = (vJ fs Str.empty δ).map D.str := rfl
@[simp] theorem vJ_nil (acc : Str) (δ : Env) : vJ [] acc δ = some acc := rfl
@[simp] theorem vJ_cons (f : Ev) (fs : List Ev) (acc : Str) (δ : Env) : vJ (f :: fs) acc δ = (f δ).bind fun d => match d with
    | .str y => if (acc ++ y).length ≤ sizeLine then vJ fs (acc ++ y) δ else none
    | _ => none := rfl
@[simp] theorem opStr_int (i : Int) : opStr [.int i] = if i.natAbs.log2 < 1920 ∧ (intStr i).length ≤ sizeLine then some (.str (intStr i)) else none := rfl

theorem intStr_fits {i : Int} (h : i.natAbs < 10 ^ 18) : i.natAbs.log2 < 1920 ∧ (intStr i).length ≤ 20 := by
  constructor
  · by_cases z : i.natAbs = 0
    · rw [z]; decide
    · exact Nat.lt_of_lt_of_le ((Nat.log2_lt z).mpr (Nat.lt_of_lt_of_le h (by decide : 10 ^ 18 ≤ 2 ^ 60))) (by decide)
  · have e := PySem.int_text_length_le10 (a := i) (k := 18) (by decide) h
    show (Str.ofString (toString i)).length ≤ 20
    rw [PySem.ofString_length]; omega
theorem empty_app (s : Str) : Str.empty ++ s = s := by
  show (⟨#[] ++ s.cps⟩ : Str) = s
  rw [Array.empty_append]
theorem small_le {n : Nat} (h : n ≤ 1000) : n ≤ sizeLine := le1000 h
theorem at_one (x : Str) (c i : Nat) : PySem.StrLaws.At x ⟨#[c]⟩ x.length i ↔ x.cps.toList[i]? = some c := by
  have hl : (⟨#[c]⟩ : Str).length = 1 := rfl
  have e2 : (Builtin.Str.subAt x ⟨#[c]⟩ i = true) ↔ (x.cps.toList.drop i).take 1 = [c] := by
    rw [PySem.StrLaws.subAt_eq]
    show ((x.cps.toList.drop i).take 1 == [c]) = true ↔ _
    rw [beq_iff_eq]
  have e3 : (x.cps.toList.drop i).take 1 = [c] ↔ x.cps.toList[i]? = some c := by
    rw [← List.head?_drop]
    cases x.cps.toList.drop i with
    | nil => simp
    | cons a l => simp
  constructor
  · intro h; exact e3.mp (e2.mp h.2)
  · intro h
    refine ⟨?_, e2.mpr (e3.mpr h)⟩
    have := (List.getElem?_eq_some_iff.mp h).1
    rw [hl]
    show i + 1 ≤ x.cps.size
    exact Nat.succ_le_of_lt (by simpa using this)
theorem find_one (x : Str) (c : Nat) : (∃ i : Nat, Txt.find x ⟨#[c]⟩ = (i : Int) ∧ x.cps.toList[i]? = some c ∧ ∀ k, k < i → x.cps.toList[k]? ≠ some c) ∨ (Txt.find x ⟨#[c]⟩ = -1 ∧ c ∉ x.cps.toList) := by
  unfold Txt.find
  rcases PySem.StrLaws.occ_head x ⟨#[c]⟩ 1 (by decide) with ⟨h0, hn⟩ | ⟨i, r, h0, ha, hn⟩
  · right
    rw [h0]
    refine ⟨rfl, fun hm => ?_⟩
    obtain ⟨i, hi⟩ := List.getElem?_of_mem hm
    exact hn i ((at_one x c i).mpr hi)
  · left
    rw [h0]
    exact ⟨i, rfl, (at_one x c i).mp ha, fun k hk z => hn k hk ((at_one x c k).mpr z)⟩

/-- a search: it hands back at the first that is so -/
theorem forD_search {α : Type} {set : Hv} {body : Sv} {enc : α → D} (R : Env → Prop) (test : α → Bool) (val : α → D) : ∀ {xs : List α} {δ : Env}, R δ → (∀ δ x, x ∈ xs → R δ → ∃ δ1, set (enc x) δ = some δ1 ∧ (test x = true → body δ1 = some (.rt (val x))) ∧ (test x = false → ∃ δ2, body δ1 = some (.nx δ2) ∧ R δ2)) →
    (∀ x, xs.find? test = some x → forD set body (xs.map enc) δ = some (.rt (val x))) ∧ (xs.find? test = none → ∃ δ', forD set body (xs.map enc) δ = some (.nx δ') ∧ R δ')
  | [], δ, r, _ => ⟨fun x h => by simp at h, fun _ => ⟨δ, rfl, r⟩⟩
  | x :: xs, δ, r, h => by
    obtain ⟨δ1, e1, h1, h2⟩ := h δ x List.mem_cons_self r
    have eq : forD set body ((x :: xs).map enc) δ = (body δ1).bind fun o => match o with | .nx δ2 => forD set body (xs.map enc) δ2 | o => some o := by
      show ((set (enc x) δ).bind fun δ1 => (body δ1).bind fun o => match o with | .nx δ2 => forD set body (xs.map enc) δ2 | o => some o) = _
      rw [e1]; rfl
    rw [eq]
    cases q : test x with
    | true =>
      rw [List.find?_cons_of_pos q, h1 q]
      exact ⟨fun y hy => by cases hy; rfl, fun z => by cases z⟩
    | false =>
      obtain ⟨δ2, e2, r2⟩ := h2 q
      rw [List.find?_cons_of_neg (by rw [q]; exact Bool.false_ne_true), e2]
      exact forD_search R test val (xs := xs) r2 fun δ y hy => h δ y (List.mem_cons_of_mem _ hy)
theorem rngD_def (lo : Int) (n : Nat) : rngD lo n = (List.range n).map fun (i : Nat) => D.int (lo + (i : Int)) := rfl
@[simp] theorem sPar_def (i j : Nat) (f : Env → Option (List D)) (δ : Env) : sPar i j f δ = (f δ).bind fun ds => match ds with
  | [d, e] => some (.nx ((δ.set i (some d)).set j (some e)))
  | _ => none := rfl
@[simp] theorem vM_def (op : Str → List D → Option D) (f : Ev) (g : Env → Option (List D)) (δ : Env) : vM op f g δ = (f δ).bind fun a => (g δ).bind fun ds => match a with | .str x => op x ds | _ => none := rfl
@[simp] theorem vM0_def (op : Str → List D → Option D) (f : Ev) (δ : Env) : vM0 op f δ = (f δ).bind fun a => match a with | .str x => op x [] | _ => none := rfl
@[simp] theorem mFind_s (x y : Str) : mFind x [.str y] = some (.int (Txt.find x y)) := rfl
@[simp] theorem opSl_str (z : Str) (lo hi : Option Int) : opSl (.str z) lo hi = some (.str ⟨(cutD z.cps.toList lo hi).toArray⟩) := rfl
@[simp] theorem opSl_lst (z : List D) (lo hi : Option Int) : opSl (.lst z) lo hi = some (.lst (cutD z lo hi)) := rfl
theorem mulOk_r (i : Int) {j : Int} (h : -(2 ^ 64) < j ∧ j < 2 ^ 64) : mulOk i j = true := by
  unfold mulOk
  simp only [decide_eq_true h.1, decide_eq_true h.2, Bool.and_self, Bool.or_true]
theorem mulOk_l {i : Int} (j : Int) (h : -(2 ^ 64) < i ∧ i < 2 ^ 64) : mulOk i j = true := by
  unfold mulOk
  simp only [decide_eq_true h.1, decide_eq_true h.2, Bool.and_self, Bool.true_or]

/-! ### slices, signs -/
theorem cutD_to {α : Type} (xs : List α) (k : Nat) : cutD xs none (some (k : Int)) = xs.take k := by
  unfold cutD
  rw [HT.sIx_none, HT.sIx_nat, List.drop_zero, Nat.sub_zero]
  by_cases h : k ≤ xs.length
  · rw [Nat.min_eq_left h]
  · rw [Nat.min_eq_right (by omega), List.take_length, List.take_of_length_le (by omega)]
theorem cutD_from {α : Type} (xs : List α) (k : Nat) : cutD xs (some (k : Int)) none = xs.drop k := by
  unfold cutD
  rw [HT.sIx_none, HT.sIx_nat]
  by_cases h : k ≤ xs.length
  · rw [Nat.min_eq_left h, List.take_of_length_le (by rw [List.length_drop]; omega)]
  · rw [Nat.min_eq_right (by omega), List.drop_of_length_le (by omega), List.drop_of_length_le (by omega), List.take_nil]
theorem cutD_to1 {α : Type} (xs : List α) : cutD xs none (some 1) = xs.take 1 := cutD_to xs 1
theorem cutD_from1 {α : Type} (xs : List α) : cutD xs (some 1) none = xs.drop 1 := cutD_from xs 1
theorem strIn_one (c : Nat) (x : Str) : strIn ⟨#[c]⟩ x = decide (c ∈ x.cps.toList) := by
  unfold strIn
  rcases PySem.StrLaws.occ_head x ⟨#[c]⟩ 1 (by decide) with ⟨h0, hn⟩ | ⟨i, r, h0, ha, hn⟩
  · rw [h0, decide_eq_false]
    · rfl
    · intro hm
      obtain ⟨i, hi⟩ := List.getElem?_of_mem hm
      exact hn i ((at_one x c i).mpr hi)
  · rw [h0, decide_eq_true]
    · rfl
    · exact List.mem_of_getElem? ((at_one x c i).mp ha)
theorem str_beq (a b : Str) : (a == b) = decide (a.cps.toList = b.cps.toList) := by
  by_cases h : a.cps.toList = b.cps.toList
  · rw [decide_eq_true h]
    have : a = b := by
      obtain ⟨x⟩ := a
      obtain ⟨y⟩ := b
      congr 1
      exact Array.ext' h
    rw [this]
    exact beq_self_eq_true _
  · rw [decide_eq_false h]
    exact beq_eq_false_iff_ne.mpr fun z => h (by rw [z])
theorem str_length (t : Str) : t.length = t.cps.toList.length := by simp [Str.length]
@[simp] theorem opIn_ss (a b : Str) : opIn (.str a) (.str b) = some (.bl (strIn a b)) := rfl
@[simp] theorem opNin_ss (a b : Str) : opNin (.str a) (.str b) = some (.bl (!strIn a b)) := rfl
@[simp] theorem opInt_str (x : Str) : opInt [.str x] = if x.length ≤ 640 then (PySem.intText? x).map D.int else none := rfl
@[simp] theorem opInt_int (x : Int) : opInt [.int x] = some (.int x) := rfl
theorem signs_def (x : Str) : signs x = x.cps.toList.map fun c => D.str ⟨#[c]⟩ := rfl
theorem intStr_big {i : Int} (h : i.natAbs < 10 ^ 60) : i.natAbs.log2 < 1920 ∧ (intStr i).length ≤ sizeLine := by
  constructor
  · by_cases z : i.natAbs = 0
    · rw [z]; decide
    · exact Nat.lt_of_lt_of_le ((Nat.log2_lt z).mpr (Nat.lt_of_lt_of_le h (by decide : 10 ^ 60 ≤ 2 ^ 200))) (by decide)
  · have e := PySem.int_text_length_le10 (a := i) (k := 60) (by decide) h
    refine le1000 ?_
    show (Str.ofString (toString i)).length ≤ 1000
    rw [PySem.ofString_length]; omega
@[simp] theorem vDict_def (h : Env → Option (List (Key × D))) (δ : Env) : vDict h δ = (h δ).bind fun ps => if ps.length ≤ 15 then some (.dicK (mergeD [] ps)) else none := rfl
@[simp] theorem pNil_def (δ : Env) : pNil δ = some [] := rfl
@[simp] theorem pCons_def (f g : Ev) (h : Env → Option (List (Key × D))) (δ : Env) : pCons f g h δ = (f δ).bind fun a => (keyD a).bind fun k => (g δ).bind fun d => (h δ).map ((k, d) :: ·) := rfl
@[simp] theorem keyD_int (i : Int) : keyD (.int i) = some (.inl i) := rfl
@[simp] theorem keyD_str (i : Str) : keyD (.str i) = some (.inr i) := rfl
@[simp] theorem sPut_def (i : Nat) (fk fv : Ev) (δ : Env) : sPut i fk fv δ = (fv δ).bind fun d => (fk δ).bind fun k => (vVar i δ).bind fun o => (opPut o k d).map fun o' => .nx (δ.set i (some o')) := rfl
@[simp] theorem sApp_def (i : Nat) (f : Ev) (δ : Env) : sApp i f δ = (vVar i δ).bind fun l => match l with
  | .lst ds => (f δ).bind fun d => if ds.length < sizeLine then some (putL i δ (ds ++ [d])) else none
  | _ => none := rfl
@[simp] theorem putL_def (i : Nat) (δ : Env) (ds : List D) : putL i δ ds = .nx (δ.set i (some (.lst ds))) := rfl

/-! ### join -/
theorem fold_len (g : Array Nat) : ∀ (ps : List Str) (a : Array Nat), (ps.foldl (fun acc p => acc ++ g ++ p.cps) a).size = a.size + (ps.map (·.length)).sum + ps.length * g.size
  | [], a => by simp
  | p :: ps, a => by
    rw [List.foldl_cons, fold_len g ps, List.map_cons, List.sum_cons, List.length_cons, Nat.succ_mul, Array.size_append, Array.size_append]
    show a.size + g.size + p.cps.size + _ + _ = a.size + (p.cps.size + _) + _
    omega
theorem join_len (x : Str) : ∀ ys : List Str, (Txt.join x ys).length ≤ (ys.map (·.length)).sum + ys.length * x.length
  | [] => Nat.zero_le _
  | y :: ys => by
    show (ys.foldl (fun acc p => acc ++ x.cps ++ p.cps) y.cps).size ≤ _
    rw [fold_len, List.map_cons, List.sum_cons, List.length_cons, Nat.succ_mul]
    show y.cps.size + _ + ys.length * x.cps.size ≤ y.cps.size + _ + (ys.length * x.cps.size + x.cps.size)
    omega
theorem fold_cps (ps : List Str) : ∀ (a : Array Nat), (ps.foldl (fun acc p => acc ++ (#[] : Array Nat) ++ p.cps) a).toList = a.toList ++ (ps.map (·.cps.toList)).flatten := by
  induction ps with
  | nil => intro a; simp
  | cons p ps ih => intro a; rw [List.foldl_cons, ih]; simp
/-- the signs of texts joined without a sign between -/
theorem join_empty (ys : List Str) : (Txt.join ("" : Str) ys).cps.toList = (ys.map (·.cps.toList)).flatten := by
  cases ys with
  | nil => rfl
  | cons y ys =>
    show (ys.foldl (fun acc p => acc ++ (#[] : Array Nat) ++ p.cps) y.cps).toList = _
    rw [fold_cps]
    simp
@[simp] theorem mJoin_lst (x : Str) (ds : List D) : mJoin x [.lst ds] = (strsOf ds).bind fun ys => if (ys.map (·.length)).sum + ys.length * x.length ≤ 16777216 ∧ (Txt.join x ys).length ≤ sizeLine then some (.str (Txt.join x ys)) else none := rfl
theorem strsOf_map : ∀ ys : List Str, strsOf (ys.map D.str) = some ys
  | [] => rfl
  | y :: ys => by
    show (strsOf (ys.map D.str)).map (y :: ·) = _
    rw [strsOf_map ys]; rfl
theorem mJoin_ok (x : Str) (ys : List Str) (h : (ys.map (·.length)).sum + ys.length * x.length ≤ 1000) : mJoin x [.lst (ys.map D.str)] = some (.str (Txt.join x ys)) := by
  rw [mJoin_lst, strsOf_map, Option.bind_some, if_pos]
  exact ⟨by omega, le1000 (Nat.le_trans (join_len x ys) h)⟩

/-! ### more loops -/
/-- a loop over a range, by the number of turns done -/
theorem forD_upto {set : Hv} {body : Sv} (R : Nat → Env → Prop) {n : Nat} (h : ∀ i δ, i < n → R i δ → ∃ δ1 δ2, set (.int (i : Int)) δ = some δ1 ∧ body δ1 = some (.nx δ2) ∧ R (i + 1) δ2) : ∀ (k s : Nat) (δ : Env), s + k = n → R s δ →
    ∃ δ', forD set body ((List.range' s k).map fun (i : Nat) => D.int (i : Int)) δ = some (.nx δ') ∧ R n δ'
  | 0, s, δ, e, r => ⟨δ, rfl, by
    have e2 : s = n := by omega
    subst e2
    exact r⟩
  | k + 1, s, δ, e, r => by
    obtain ⟨δ1, δ2, e1, e2, r2⟩ := h s δ (by omega) r
    obtain ⟨δ', e3, r3⟩ := forD_upto R h k (s + 1) δ2 (by omega) r2
    refine ⟨δ', ?_, r3⟩
    rw [List.range'_succ, List.map_cons]
    show ((set (.int (s : Int)) δ).bind fun δ1 => (body δ1).bind fun o => match o with | .nx δ2 => forD set body _ δ2 | o => some o) = _
    rw [e1, Option.bind_some, e2]
    exact e3
theorem forD_count {set : Hv} {body : Sv} (R : Nat → Env → Prop) {n : Nat} {δ : Env} (r : R 0 δ) (h : ∀ i δ, i < n → R i δ → ∃ δ1 δ2, set (.int (i : Int)) δ = some δ1 ∧ body δ1 = some (.nx δ2) ∧ R (i + 1) δ2) : ∃ δ', forD set body (rngD 0 n) δ = some (.nx δ') ∧ R n δ' := by
  have := forD_upto R h n 0 δ (by omega) r
  have e : rngD 0 n = (List.range' 0 n).map fun (i : Nat) => D.int (i : Int) := by
    rw [rngD_def, List.range_eq_range']
    simp
  rw [e]
  exact this
/-- a loop that hands back v at the first bad one, and else goes on -/
theorem forD_until {α σ : Type} {set : Hv} {body : Sv} {enc : α → D} {bad : α → Bool} {v : D} (R : σ → Env → Prop) (step : σ → α → σ) : ∀ {xs : List α} {s : σ} {δ : Env}, R s δ → (∀ s δ x, x ∈ xs → R s δ → ∃ δ1, set (enc x) δ = some δ1 ∧ (bad x = true → body δ1 = some (.rt v)) ∧ (bad x = false → ∃ δ2, body δ1 = some (.nx δ2) ∧ R (step s x) δ2)) →
    (xs.any bad = true → forD set body (xs.map enc) δ = some (.rt v)) ∧ (xs.any bad = false → ∃ δ', forD set body (xs.map enc) δ = some (.nx δ') ∧ R (xs.foldl step s) δ')
  | [], s, δ, r, _ => ⟨fun h => by simp at h, fun _ => ⟨δ, rfl, r⟩⟩
  | x :: xs, s, δ, r, h => by
    obtain ⟨δ1, e1, h1, h2⟩ := h s δ x List.mem_cons_self r
    have eq : forD set body ((x :: xs).map enc) δ = (body δ1).bind fun o => match o with | .nx δ2 => forD set body (xs.map enc) δ2 | o => some o := by
      show ((set (enc x) δ).bind fun δ1 => (body δ1).bind fun o => match o with | .nx δ2 => forD set body (xs.map enc) δ2 | o => some o) = _
      rw [e1]; rfl
    rw [eq, List.any_cons]
    cases q : bad x with
    | true =>
      rw [h1 q]
      exact ⟨fun _ => rfl, fun z => by cases z⟩
    | false =>
      obtain ⟨δ2, e2, r2⟩ := h2 q
      rw [e2]
      have ih := forD_until R step (xs := xs) r2 fun s δ y hy => h s δ y (List.mem_cons_of_mem _ hy)
      exact ⟨fun z => ih.1 (by simpa using z), fun z => ih.2 (by simpa using z)⟩
/-! ### tables -/
def tab (m : Nat) (g : Nat → D) : List D := (List.range m).map g
@[simp] theorem tab_len (m : Nat) (g : Nat → D) : (tab m g).length = m := by simp [tab]
theorem tab_at {m x : Nat} {g : Nat → D} (h : x < m) : atI (tab m g) (x : Int) = some (g x) := atI_nat (by simp [tab, h])
theorem tab_succ (m : Nat) (g : Nat → D) : tab (m + 1) g = tab m g ++ [g m] := by simp [tab, List.range_succ]
theorem tab_congr {m : Nat} {g g' : Nat → D} (h : ∀ i, i < m → g i = g' i) : tab m g = tab m g' := List.map_congr_left fun i hi => h i (List.mem_range.mp hi)
theorem tab_set {m i : Nat} {g : Nat → D} {d : D} (h : i < m) : (tab m g).set i d = tab m fun j => if j = i then d else g j := by
  apply List.ext_getElem?
  intro j
  by_cases c : i = j
  · subst c
    rw [List.getElem?_set_self (by simp [h])]
    simp [tab, h]
  · rw [List.getElem?_set_ne c]
    unfold tab
    rw [List.getElem?_map, List.getElem?_map]
    cases q : (List.range m)[j]? with
    | none => rfl
    | some k =>
      have : k = j := by
        rw [List.getElem?_range (by have := (List.getElem?_eq_some_iff.mp q).1; simpa using this)] at q
        exact (Option.some.inj q).symm
      subst this
      show some (g k) = some (if k = i then d else g k)
      rw [if_neg (fun e => c e.symm)]
theorem opPut_lst {ds : List D} {i : Nat} {d : D} (h : i < ds.length) : opPut (.lst ds) (.int (i : Int)) d = some (.lst (ds.set i d)) := by
  show (ixN ds.length (i : Int)).map (fun j => D.lst (ds.set j d)) = _
  have e : ixN ds.length (i : Int) = some i := by
    unfold ixN
    rw [if_pos (by omega), if_pos (by omega)]
    simp
  rw [e]; rfl
/-- numbers -/
def nats (xs : List Nat) : List D := xs.map fun (x : Nat) => D.int (x : Int)
@[simp] theorem nats_len (xs : List Nat) : (nats xs).length = xs.length := by simp [nats]
theorem fit_nats (xs : List Nat) (n : Nat) : ∀ d ∈ nats xs, fitN n d := fun d hd => by
  obtain ⟨x, _, rfl⟩ := List.mem_map.mp hd
  exact fit_int _ _
theorem opIn_nats (x : Nat) (xs : List Nat) : opIn (.int (x : Int)) (.lst (nats xs)) = some (.bl (decide (x ∈ xs))) := by
  show (if cmpOk (.lst (nats xs)) (.int (x : Int)) = true then some ((nats xs).any fun y => D.eqv y (.int (x : Int))) else none).map D.bl = _
  rw [if_pos (cmpOk_of (n := 1) (fit_lst (fit_nats xs 0)) (fit_int _ _) (by decide)), Option.map_some]
  congr 2
  apply Bool.eq_iff_iff.mpr
  rw [List.any_eq_true, decide_eq_true_iff]
  constructor
  · rintro ⟨d, hd, e⟩
    obtain ⟨y, hy, rfl⟩ := List.mem_map.mp hd
    have : ((y : Int) == (x : Int)) = true := e
    have : y = x := by have := beq_iff_eq.mp this; omega
    rw [← this]; exact hy
  · intro h
    exact ⟨.int x, List.mem_map.mpr ⟨x, h, rfl⟩, beq_self_eq_true (x : Int)⟩
@[simp] theorem vSortSet_def (f : Ev) (δ : Env) : vSortSet f δ = (f δ).bind fun d => match d with
  | .lst ds => (intsOf ds).bind fun ns => if ns.length < 64 then some (.lst ((setSort ns).map D.int)) else none
  | _ => none := rfl
theorem nats_ints (xs : List Nat) : nats xs = (xs.map fun (x : Nat) => (x : Int)).map D.int := by simp [nats]
theorem eqv_pair (a b : Str) (i j : Int) : D.eqv (.tup [.str a, .int i]) (.tup [.str b, .int j]) = (a == b && i == j) := by
  show (a == b && (i == j && true)) = _
  rw [Bool.and_true]
theorem fit_pair (a : Str) (i : Int) : fitN 1 (.tup [.str a, .int i]) := fit_tup (n := 0) fun d hd => by
  rcases List.mem_cons.mp hd with rfl | hd
  · exact fit_str _ _
  · rw [List.mem_singleton.mp hd]; exact fit_int _ _
theorem opEq_pair (a b : Str) (i j : Int) : opEq (.tup [.str a, .int i]) (.tup [.str b, .int j]) = some (.bl (a == b && i == j)) := by
  unfold opEq
  rw [if_pos (cmpOk_of (fit_pair a i) (fit_pair b j) (by decide)), eqv_pair]
theorem opEq_non_pair (b : Str) (j : Int) : opEq .non (.tup [.str b, .int j]) = some (.bl false) := by
  unfold opEq
  rw [if_pos (cmpOk_of (n := 1) (fit_non 1) (fit_pair b j) (by decide))]
  rfl
end Dl
namespace Pr
open PySem L2 Dl
def top (i : Nat) : Stmt := PySem.Challenge.pw_playboard_k25_lines.main.body.getD i (.Pass ⟨0, 0, 0, 0⟩)
/-- word -/
abbrev s_wanted : Stmt := top 1
theorem sc_wanted : FnScope ["word", "sort", "many"] ["word"] (defScope s_wanted) := ⟨rfl, rfl, rfl, by decide +kernel, rfl, by decide +kernel, by decide +kernel⟩
def sv_wanted : Sv := (sSeq (sAsg (vVar 0) (hTup 2 (hCons (hName 1) (hCons (hName 2) hNil)))) (sSeq (sIf (vTst (v2 opEq (vVar 1) (vC (.str "won")))) (sRet (vTup (aCons (vC (.str "lost")) (aCons (v2 opSub (vVar 2) (vC (.int 1))) aNil)))) sNext) (sSeq (sIf (vTst (v2 opEq (vVar 1) (vC (.str "lost")))) (sRet (vTup (aCons (vC (.str "won")) (aCons (v2 opSub (vVar 2) (vC (.int 1))) aNil)))) sNext) (sRet (vTup (aCons (vC (.str "even")) (aCons (vC (.int 0)) aNil)))))))
def den_wanted : List D → Option D := denOf 3 1 .sh sv_wanted
/-- nexts, known, words, number -/
abbrev s_best : Stmt := top 2
theorem sc_best : FnScope ["nexts", "known", "words", "number", "word", "one"] ["nexts", "known", "words", "number"] (defScope s_best) := ⟨rfl, rfl, rfl, by decide +kernel, rfl, by decide +kernel, by decide +kernel⟩
def t0_best : Dl.Env → Option Bool := (vTst (v2 opEq (v2 opIx (vVar 2) (vVar 5)) (vVar 4)))
def sv_best : Sv := (sSeq (sIf (vTst (v2 opNot (v2 opIx (vVar 1) (vVar 3)) (vC .non))) (sRet (vLst aNil)) sNext) (sSeq (sSet 4 (vC1 den_wanted (aCons (v2 opIx (vVar 2) (vVar 3)) aNil))) (sRet (vSortSet (vLc (iAnyF (v2 opIx (vVar 0) (vVar 3))) (hName 5) t0_best (vVar 5) [5])))))
def den_best : List D → Option D := denOf 6 4 .ow sv_best
/-- nexts, known, words, number, most -/
abbrev s_line : Stmt := top 3
theorem sc_line : FnScope ["nexts", "known", "words", "number", "most", "found"] ["nexts", "known", "words", "number", "most"] (defScope s_line) := ⟨rfl, rfl, rfl, by decide +kernel, rfl, by decide +kernel, by decide +kernel⟩
def w0_line : Dl.Env → Option Bool := (bAnd (vTst (v2 opIs (v2 opIx (vVar 1) (v2 opIx (vVar 5) (vNeg (vC (.int 1))))) (vC .non))) (vTst (v2 opLe (vC1 opLen (aCons (vVar 5) aNil)) (vVar 4))))
def b1_line : Sv := (sApp 5 (v2 opIx (vC1 den_best (aCons (vVar 0) (aCons (vVar 1) (aCons (vVar 2) (aCons (v2 opIx (vVar 5) (vNeg (vC (.int 1)))) aNil))))) (vC (.int 0))))
def sv_line : Sv := (sSeq (sSet 5 (vLst (aCons (vVar 3) aNil))) (sSeq (sWhile w0_line b1_line) (sRet (vVar 5))))
def den_line : List D → Option D := denOf 6 5 .ow sv_line
/-- _law_script, _law_k -/
abbrev s_law_cell_at : Stmt := top 5
theorem sc_law_cell_at : FnScope ["_law_script", "_law_k"] ["_law_script", "_law_k"] (defScope s_law_cell_at) := ⟨rfl, rfl, rfl, by decide +kernel, rfl, by decide +kernel, by decide +kernel⟩
def sv_law_cell_at : Sv := (sSeq (sIf (vTst (v2 opLt (vVar 1) (vC1 opLen (aCons (vVar 0) aNil)))) (sRet (v2 opIx (vVar 0) (vVar 1))) sNext) (sRet (vC (.int 0))))
def den_law_cell_at : List D → Option D := denOf 2 2 .sh sv_law_cell_at
/-- _law_cell -/
abbrev s_law_known : Stmt := top 6
theorem sc_law_known : FnScope ["_law_cell", "_law_sort"] ["_law_cell"] (defScope s_law_known) := ⟨rfl, rfl, rfl, by decide +kernel, rfl, by decide +kernel, by decide +kernel⟩
def sv_law_known : Sv := (sSeq (sIf (vTst (v2 opGt (v2 opMod (vVar 0) (vC (.int 3))) (vC (.int 0)))) (sRet (vC .non)) sNext) (sSeq (sSet 1 (v2 opIx (vLst (aCons (vC (.str "won")) (aCons (vC (.str "lost")) (aCons (vC (.str "lost")) (aCons (vC (.str "even")) aNil))))) (v2 opMod (v2 opDiv (vVar 0) (vC (.int 3))) (vC (.int 4))))) (sSeq (sIf (vTst (v2 opEq (vVar 1) (vC (.str "even")))) (sRet (vTup (aCons (vC (.str "even")) (aCons (vC (.int 0)) aNil)))) sNext) (sRet (vTup (aCons (vVar 1) (aCons (v2 opMod (v2 opDiv (vVar 0) (vC (.int 12))) (vC (.int 7))) aNil)))))))
def den_law_known : List D → Option D := denOf 2 1 .sh sv_law_known
/-- _law_cell, _law_many -/
abbrev s_law_nexts : Stmt := top 7
theorem sc_law_nexts : FnScope ["_law_cell", "_law_many", "_law_found", "_law_k"] ["_law_cell", "_law_many"] (defScope s_law_nexts) := ⟨rfl, rfl, rfl, by decide +kernel, rfl, by decide +kernel, by decide +kernel⟩
def b0_law_nexts : Sv := (sSeq (sApp 2 (v2 opMod (v2 opDiv (vVar 0) (vC (.int 4))) (vVar 1))) (sSet 0 (v2 opAdd (v2 opDiv (v2 opDiv (vVar 0) (vC (.int 4))) (vVar 1)) (v2 opMulI (vC (.int 3)) (vVar 3)))))
def sv_law_nexts : Sv := (sSeq (sSet 2 (vLst aNil)) (sSeq (sSet 0 (v2 opDiv (vVar 0) (vC (.int 84)))) (sSeq (sFor (iRngF1 (aCons (v2 opAdd (vC (.int 1)) (v2 opMod (vVar 0) (vC (.int 4)))) aNil)) (hName 3) b0_law_nexts) (sRet (vVar 2)))))
def den_law_nexts : List D → Option D := denOf 4 2 .ow sv_law_nexts
/-- _law_script -/
abbrev s_law_net : Stmt := top 8
theorem sc_law_net : FnScope ["_law_script", "_law_many", "_law_nexts_here", "_law_known_here", "_law_k", "_law_cell", "_law_word", "_law_numbers_here"] ["_law_script"] (defScope s_law_net) := ⟨rfl, rfl, rfl, by decide +kernel, rfl, by decide +kernel, by decide +kernel⟩
def b0_law_net : Sv := (sSeq (sSet 5 (v2 opMod (v2 opMulI (vC1 den_law_cell_at (aCons (vVar 0) (aCons (v2 opAdd (vC (.int 2)) (vVar 4)) aNil))) (vC (.int 48271))) (vC (.int 2147483647)))) (sSeq (sSet 6 (vC1 den_law_known (aCons (vVar 5) aNil))) (sSeq (sApp 3 (vVar 6)) (sSeq (sSet 7 (vC1 den_law_nexts (aCons (vVar 5) (aCons (vVar 1) aNil)))) (sSeq (sIf (bAnd (vTst (v2 opNot (vVar 6) (vC .non))) (vTst (v2 opEq (v2 opMod (vVar 5) (vC (.int 2))) (vC (.int 0))))) (sSet 7 (vLst aNil)) sNext) (sApp 2 (vVar 7)))))))
def sv_law_net : Sv := (sSeq (sSet 1 (v2 opAdd (vC (.int 1)) (v2 opMod (vC1 den_law_cell_at (aCons (vVar 0) (aCons (vC (.int 0)) aNil))) (vC (.int 12))))) (sSeq (sSet 2 (vLst aNil)) (sSeq (sSet 3 (vLst aNil)) (sSeq (sFor (iRngF1 (aCons (vVar 1) aNil)) (hName 4) b0_law_net) (sRet (vTup (aCons (vVar 2) (aCons (vVar 3) aNil))))))))
def den_law_net : List D → Option D := denOf 8 1 .sh sv_law_net
/-- _law_numbers_here, _law_words, _law_turn -/
abbrev s_law_comes_up : Stmt := top 9
theorem sc_law_comes_up : FnScope ["_law_numbers_here", "_law_words", "_law_turn", "_law_number", "_law_greatest"] ["_law_numbers_here", "_law_words", "_law_turn"] (defScope s_law_comes_up) := ⟨rfl, rfl, rfl, by decide +kernel, rfl, by decide +kernel, by decide +kernel⟩
def b0_law_comes_up : Sv := (sIf (vTst (v2 opEq (v2 opIx (vVar 1) (vVar 3)) (vTup (aCons (vC (.str "lost")) (aCons (v2 opSub (vVar 2) (vC (.int 1))) aNil))))) (sRet (vTup (aCons (vC (.str "won")) (aCons (vVar 2) aNil)))) sNext)
def b1_law_comes_up : Sv := (sSeq (sIf (bOr (vTst (v2 opIs (v2 opIx (vVar 1) (vVar 3)) (vC .non))) (vTst (v2 opNe (v2 opIx (v2 opIx (vVar 1) (vVar 3)) (vC (.int 0))) (vC (.str "won"))))) (sRet (vC .non)) sNext) (sSet 4 (vC1 opMax2 (aCons (vVar 4) (aCons (v2 opIx (v2 opIx (vVar 1) (vVar 3)) (vC (.int 1))) aNil)))))
def sv_law_comes_up : Sv := (sSeq (sFor (iAnyF (vVar 0)) (hName 3) b0_law_comes_up) (sSeq (sSet 4 (vC (.int 0))) (sSeq (sFor (iAnyF (vVar 0)) (hName 3) b1_law_comes_up) (sSeq (sIf (bOr (vTst (v2 opEq (vVar 0) (vLst aNil))) (vTst (v2 opNe (vVar 4) (v2 opSub (vVar 2) (vC (.int 1)))))) (sRet (vC .non)) sNext) (sRet (vTup (aCons (vC (.str "lost")) (aCons (vVar 2) aNil))))))))
def den_law_comes_up : List D → Option D := denOf 5 3 .sh sv_law_comes_up
/-- _law_nexts_here, _law_known_here -/
abbrev s_law_rounds : Stmt := top 10
theorem sc_law_rounds : FnScope ["_law_nexts_here", "_law_known_here", "_law_words", "_law_turn", "_law_fresh", "_law_at", "_law_word"] ["_law_nexts_here", "_law_known_here"] (defScope s_law_rounds) := ⟨rfl, rfl, rfl, by decide +kernel, rfl, by decide +kernel, by decide +kernel⟩
def b0_law_rounds : Sv := (sSeq (sSet 6 (vC .non)) (sSeq (sIf (bAnd (vTst (v2 opIs (v2 opIx (vVar 1) (vVar 5)) (vC .non))) (vTst (v2 opIs (v2 opIx (vVar 2) (vVar 5)) (vC .non)))) (sSet 6 (vC1 den_law_comes_up (aCons (v2 opIx (vVar 0) (vVar 5)) (aCons (vVar 2) (aCons (vVar 3) aNil))))) (sIf (bAnd (vTst (v2 opNot (v2 opIx (vVar 1) (vVar 5)) (vC .non))) (bAnd (vTst (v2 opNe (v2 opIx (v2 opIx (vVar 1) (vVar 5)) (vC (.int 0))) (vC (.str "even")))) (vTst (v2 opEq (v2 opIx (v2 opIx (vVar 1) (vVar 5)) (vC (.int 1))) (vVar 3))))) (sSet 6 (v2 opIx (vVar 1) (vVar 5))) sNext)) (sApp 4 (vVar 6))))
def b1_law_rounds : Sv := (sIf (vTst (v2 opNot (v2 opIx (vVar 4) (vVar 5)) (vC .non))) (sPut 2 (vVar 5) (v2 opIx (vVar 4) (vVar 5))) sNext)
def b2_law_rounds : Sv := (sSeq (sSet 4 (vLst aNil)) (sSeq (sFor (iRngF1 (aCons (vC1 opLen (aCons (vVar 1) aNil)) aNil)) (hName 5) b0_law_rounds) (sFor (iRngF1 (aCons (vC1 opLen (aCons (vVar 1) aNil)) aNil)) (hName 5) b1_law_rounds)))
def e3_law_rounds : Ev := (vIf (vTst (v2 opIs (vVar 6) (vC .non))) (vTup (aCons (vC (.str "even")) (aCons (vC (.int 0)) aNil))) (vVar 6))
def sv_law_rounds : Sv := (sSeq (sSet 2 (v2 opMul (vLst (aCons (vC .non) aNil)) (vC1 opLen (aCons (vVar 1) aNil)))) (sSeq (sFor (iRngF1 (aCons (v2 opAdd (vC1 opLen (aCons (vVar 1) aNil)) (vC (.int 8))) aNil)) (hName 3) b2_law_rounds) (sRet (vLc (iAnyF (vVar 2)) (hName 6) tsYes e3_law_rounds [6]))))
def den_law_rounds : List D → Option D := denOf 7 2 .ow sv_law_rounds
/-- _law_nexts_here, _law_words, _law_at -/
abbrev s_law_first : Stmt := top 11
theorem sc_law_first : FnScope ["_law_nexts_here", "_law_words", "_law_at", "_law_sort", "_law_many", "_law_due", "_law_number"] ["_law_nexts_here", "_law_words", "_law_at"] (defScope s_law_first) := ⟨rfl, rfl, rfl, by decide +kernel, rfl, by decide +kernel, by decide +kernel⟩
def t0_law_first : Dl.Env → Option Bool := (vTst (v2 opEq (v2 opIx (vVar 1) (vVar 6)) (vVar 5)))
def sv_law_first : Sv := (sSeq (sAsg (v2 opIx (vVar 1) (vVar 2)) (hTup 2 (hCons (hName 3) (hCons (hName 4) hNil)))) (sSeq (sSet 5 (v2 opIx (vDict (pCons (vC (.str "won")) (vTup (aCons (vC (.str "lost")) (aCons (v2 opSub (vVar 4) (vC (.int 1))) aNil))) (pCons (vC (.str "lost")) (vTup (aCons (vC (.str "won")) (aCons (v2 opSub (vVar 4) (vC (.int 1))) aNil))) (pCons (vC (.str "even")) (vTup (aCons (vC (.str "even")) (aCons (vC (.int 0)) aNil))) pNil)))) (vVar 3))) (sRet (vC1 opMin (aCons (vLc (iAnyF (v2 opIx (vVar 0) (vVar 2))) (hName 6) t0_law_first (vVar 6) [6]) aNil)))))
def den_law_first : List D → Option D := denOf 7 3 .sh sv_law_first
/-- _law_nexts_here, _law_known_here, _law_words, _law_at, _law_most -/
abbrev s_law_going : Stmt := top 12
theorem sc_law_going : FnScope ["_law_nexts_here", "_law_known_here", "_law_words", "_law_at", "_law_most", "_law_found", "_law_turn"] ["_law_nexts_here", "_law_known_here", "_law_words", "_law_at", "_law_most"] (defScope s_law_going) := ⟨rfl, rfl, rfl, by decide +kernel, rfl, by decide +kernel, by decide +kernel⟩
def b0_law_going : Sv := (sIf (vTst (v2 opIs (v2 opIx (vVar 1) (v2 opIx (vVar 5) (vNeg (vC (.int 1))))) (vC .non))) (sApp 5 (vC1 den_law_first (aCons (vVar 0) (aCons (vVar 2) (aCons (v2 opIx (vVar 5) (vNeg (vC (.int 1)))) aNil))))) sNext)
def sv_law_going : Sv := (sSeq (sSet 5 (vLst (aCons (vVar 3) aNil))) (sSeq (sFor (iRngF1 (aCons (vVar 4) aNil)) (hName 6) b0_law_going) (sRet (vVar 5))))
def den_law_going : List D → Option D := denOf 7 5 .ow sv_law_going
/-- _law_found, _law_due -/
abbrev s_law_numbers : Stmt := top 13
theorem sc_law_numbers : FnScope ["_law_found", "_law_due", "_law_one"] ["_law_found", "_law_due"] (defScope s_law_numbers) := ⟨rfl, rfl, rfl, by decide +kernel, rfl, by decide +kernel, by decide +kernel⟩
def t0_law_numbers : Dl.Env → Option Bool := (vTst (vC1 opIsi (aCons (vVar 2) (aCons (vC (.ty "bool")) aNil))))
def t1_law_numbers : Dl.Env → Option Bool := (bNot (vTst (vC1 opIsi (aCons (vVar 2) (aCons (vC (.ty "int")) aNil)))))
def sv_law_numbers : Sv := (sSeq (sIf (bOr (bNot (vTst (vC1 opIsi (aCons (vVar 0) (aCons (vC (.ty "list")) aNil))))) (vTst (v2 opNe (vLc (iAnyF (vVar 0)) (hName 2) t0_law_numbers (vVar 2) [2]) (vLst aNil)))) (sRet (vC (.bl false))) sNext) (sRet (vAnd (v2 opEq (vLc (iAnyF (vVar 0)) (hName 2) t1_law_numbers (vVar 2) [2]) (vLst aNil)) (v2 opEq (vVar 0) (vVar 1)))))
def den_law_numbers : List D → Option D := denOf 3 2 .sh sv_law_numbers
/-- _law_script -/
abbrev s_law : Stmt := top 14
theorem sc_law : FnScope ["_law_script", "_law_nexts_here", "_law_known_here", "_law_words", "_law_at", "_law_most", "_law_handed", "_law_found", "_law_whole", "_law_numbers_here"] ["_law_script"] (defScope s_law) := ⟨rfl, rfl, rfl, by decide +kernel, rfl, by decide +kernel, by decide +kernel⟩
def e0_law : Ev := (vC1 opList (aCons (vVar 9) aNil))
def sv_law : Sv := (sSeq (sAsg (vC1 den_law_net (aCons (vVar 0) aNil)) (hTup 2 (hCons (hName 1) (hCons (hName 2) hNil)))) (sSeq (sSet 3 (vC1 den_law_rounds (aCons (vVar 1) (aCons (vVar 2) aNil)))) (sSeq (sSet 4 (v2 opMod (vC1 den_law_cell_at (aCons (vVar 0) (aCons (vC (.int 1)) aNil))) (vC1 opLen (aCons (vVar 2) aNil)))) (sSeq (sSet 5 (v2 opMod (v2 opDiv (vC1 den_law_cell_at (aCons (vVar 0) (aCons (vC (.int 1)) aNil))) (vC (.int 12))) (vC (.int 21)))) (sSeq (sSet 6 (vTup (aCons (vLc (iAnyF (vVar 1)) (hName 9) tsYes e0_law [9]) (aCons (vC1 opList (aCons (vVar 2) aNil)) (aCons (vC1 opList (aCons (vVar 3) aNil)) aNil))))) (sSeq (sSet 7 (vC1 den_line (aCons (v2 opIx (vVar 6) (vC (.int 0))) (aCons (v2 opIx (vVar 6) (vC (.int 1))) (aCons (v2 opIx (vVar 6) (vC (.int 2))) (aCons (vVar 4) (aCons (vVar 5) aNil))))))) (sSeq (sIf (bOr (bNot (vTst (vC1 den_law_numbers (aCons (vVar 7) (aCons (vC1 den_law_going (aCons (vVar 1) (aCons (vVar 2) (aCons (vVar 3) (aCons (vVar 4) (aCons (vVar 5) aNil)))))) aNil))))) (vTst (v2 opNe (vVar 6) (vTup (aCons (vVar 1) (aCons (vVar 2) (aCons (vVar 3) aNil))))))) (sRet (vC (.bl false))) sNext) (sSeq (sApp 7 (vVar 4)) (sSeq (sIf (bNot (vTst (vC1 den_law_numbers (aCons (vC1 den_line (aCons (v2 opIx (vVar 6) (vC (.int 0))) (aCons (v2 opIx (vVar 6) (vC (.int 1))) (aCons (v2 opIx (vVar 6) (vC (.int 2))) (aCons (vVar 4) (aCons (vVar 5) aNil)))))) (aCons (vSl opSl (vVar 7) (fun _ => some none) (vPart (vNeg (vC (.int 1))))) aNil))))) (sRet (vC (.bl false))) sNext) (sSeq (sSet 8 (vC1 den_line (aCons (v2 opIx (vVar 6) (vC (.int 0))) (aCons (v2 opIx (vVar 6) (vC (.int 1))) (aCons (v2 opIx (vVar 6) (vC (.int 2))) (aCons (vVar 4) (aCons (vC (.int 30)) aNil))))))) (sRet (vOr (v2 opEq (v2 opIx (v2 opIx (vVar 3) (vVar 4)) (vC (.int 0))) (vC (.str "even"))) (v2 opEq (v2 opSub (vC1 opLen (aCons (vVar 8) aNil)) (vC (.int 1))) (v2 opSub (v2 opIx (v2 opIx (vVar 3) (vVar 4)) (vC (.int 1))) (v2 opIx (v2 opIx (vVar 3) (v2 opIx (vVar 8) (vNeg (vC (.int 1))))) (vC (.int 1)))))))))))))))))
def den_law : List D → Option D := denOf 10 1 .sh sv_law
end Pr
set_option maxHeartbeats 4000000
namespace Pr
open PySem L2 Dl
structure Prg (K : PySem.W.Frag) (mg : Str → Option Value) where
  d_wanted : Dfn K mg "wanted" "wanted" s_wanted ["word"]
  d_best : Dfn K mg "best" "best" s_best ["nexts", "known", "words", "number"]
  d_line : Dfn K mg "line" "line" s_line ["nexts", "known", "words", "number", "most"]
  d_law_cell_at : Dfn K mg "_law_cell_at" "_law_cell_at" s_law_cell_at ["_law_script", "_law_k"]
  d_law_known : Dfn K mg "_law_known" "_law_known" s_law_known ["_law_cell"]
  d_law_nexts : Dfn K mg "_law_nexts" "_law_nexts" s_law_nexts ["_law_cell", "_law_many"]
  d_law_net : Dfn K mg "_law_net" "_law_net" s_law_net ["_law_script"]
  d_law_comes_up : Dfn K mg "_law_comes_up" "_law_comes_up" s_law_comes_up ["_law_numbers_here", "_law_words", "_law_turn"]
  d_law_rounds : Dfn K mg "_law_rounds" "_law_rounds" s_law_rounds ["_law_nexts_here", "_law_known_here"]
  d_law_first : Dfn K mg "_law_first" "_law_first" s_law_first ["_law_nexts_here", "_law_words", "_law_at"]
  d_law_going : Dfn K mg "_law_going" "_law_going" s_law_going ["_law_nexts_here", "_law_known_here", "_law_words", "_law_at", "_law_most"]
  d_law_numbers : Dfn K mg "_law_numbers" "_law_numbers" s_law_numbers ["_law_found", "_law_due"]
  d_law : Dfn K mg "law" "law" s_law ["_law_script"]
  z_sorted : mg "sorted" = none
  z_set : mg "set" = none
  z_len : mg "len" = none
  z_range : mg "range" = none
  z_max : mg "max" = none
  z_min : mg "min" = none
  z_bool : mg "bool" = none
  z_isinstance : mg "isinstance" = none
  z_list : mg "list" = none
  z_int : mg "int" = none
section
variable {P : Program} {w : World} {K : PySem.W.Frag} {mg : Str → Option Value} {base : Heap} {Γ : CM}
theorem ok_wanted (T : Prg K mg) : FnOk P w K mg base CX0 1 T.d_wanted.f T.d_wanted.fd ["word"] (spD K Γ [.sh] .sh den_wanted) := by
  refine fn_ok (N := ["word", "sort", "many"]) (s := sv_wanted) (M0 := [.sh, .sh, .sh]) (M' := [.sh, .sh, .sh]) T.d_wanted.fn sc_wanted rfl rfl rfl rfl rfl (fun cdv A outer s0 H E hr => ?_)
  exact ⟨_, (dss_cons (ds_asg (de_var (i := 0) (m := .sh)) (dg_tupK K rfl (dgs_cons (dg_name (i := 1) (M1 := [.sh, .sh, .sh]) sc_wanted.nd) (dgs_cons (dg_name (i := 2) (M1 := [.sh, .sh, .sh]) sc_wanted.nd) dgs_nil)))) (dss_cons (ds_if (dt_cmp (od_eqK K (by exact hr.units)) (de_var (i := 1) (m := .sh)) de_str) (dss_one (ds_ret (de_tup (da_cons (m' := .sh) de_str (da_cons (m' := .sh) (de_op od_sub (de_var (i := 2) (m := .sh)) de_int) da_nil))))) dss_nil) (dss_cons (ds_if (dt_cmp (od_eqK K (by exact hr.units)) (de_var (i := 1) (m := .sh)) de_str) (dss_one (ds_ret (de_tup (da_cons (m' := .sh) de_str (da_cons (m' := .sh) (de_op od_sub (de_var (i := 2) (m := .sh)) de_int) da_nil))))) dss_nil) (dss_one (ds_ret (de_tup (da_cons (m' := .sh) de_str (da_cons (m' := .sh) de_int da_nil))))))))⟩
theorem ok_best (T : Prg K mg) : FnOk P w K mg base CX0 2 T.d_best.f T.d_best.fd ["nexts", "known", "words", "number"] (spD K Γ [.bo, .bo, .bo, .bo] .ow den_best) := by
  refine fn_ok (N := ["nexts", "known", "words", "number", "word", "one"]) (s := sv_best) (M0 := [.bo, .bo, .bo, .bo, .sh, .sh]) (M' := [.bo, .bo, .bo, .bo, .sh, .sh]) T.d_best.fn sc_best rfl rfl rfl rfl rfl (fun cdv A outer s0 H E hr => ?_)
  exact ⟨_, (dss_cons (ds_if (dt_cmp od_isnot (de_ixK K (by exact hr.units) (de_var (i := 1) (m := .bo)) (de_var (i := 3) (m := .bo))) de_non) (dss_one (ds_ret (de_lst da_nil))) dss_nil) (dss_cons (ds_set (i := 4) (M1 := [.bo, .bo, .bo, .bo, .sh, .sh]) sc_best.nd (de_callDK K T.d_wanted (ok_wanted T) (hr.mono (by decide)) (da_cons (m' := .sh) (de_ixK K (by exact hr.units) (de_var (i := 2) (m := .bo)) (de_var (i := 3) (m := .bo))) da_nil))) (dss_one (ds_ret (de_sortSet K rfl T.z_sorted T.z_set (de_lc (own := [("one", 5)]) rfl sc_best.nd (blkOk_by (N := ["nexts", "known", "words", "number", "word", "one"]) (sc := defScope s_best) (by decide +kernel)) (di_anyK K (de_ixK K (by exact hr.units) (de_var (i := 0) (m := .bo)) (de_var (i := 3) (m := .bo)))) (fun _ _ _ _ _ => (dg_name (i := 5) (M1 := [.bo, .bo, .bo, .bo, .sh, .sh]) sc_best.nd)) (fun _ _ _ _ _ => (dts_one (dt_cmp (od_eqK K (by exact hr.units)) (de_ixK K (by exact hr.units) (de_var (i := 2) (m := .bo)) (de_var (i := 5) (m := .sh))) (de_var (i := 4) (m := .sh))))) (fun _ _ _ _ _ => (de_var (i := 5) (m := .sh)))))))))⟩
theorem ok_line (T : Prg K mg) : FnOk P w K mg base CX0 3 T.d_line.f T.d_line.fd ["nexts", "known", "words", "number", "most"] (spD K Γ [.bo, .bo, .bo, .sh, .bo] .ow den_line) := by
  refine fn_ok (N := ["nexts", "known", "words", "number", "most", "found"]) (s := sv_line) (M0 := [.bo, .bo, .bo, .sh, .bo, .sh]) (M' := [.bo, .bo, .bo, .sh, .bo, .sh]) T.d_line.fn sc_line rfl rfl rfl rfl rfl (fun cdv A outer s0 H E hr => ?_)
  exact ⟨_, (dss_cons (ds_set (i := 5) (M1 := [.bo, .bo, .bo, .sh, .bo, .ow]) sc_line.nd (de_lst (da_cons (m' := .sh) (de_var (i := 3) (m := .sh)) da_nil))) (dss_cons (ds_while PassesOwn.never (DW.dt (dw_and (dt_cmp od_is (de_ixK K (by exact hr.units) (de_var (i := 1) (m := .bo)) (de_ixK K (by exact hr.units) (de_var (i := 5) (m := .ow)) (de_neg de_int))) de_non) (dw_and1 (dt_cmp od_le (de_callB (cd_lenK K) rfl T.z_len (by decide +kernel) (da_cons (m' := .bo) (de_var (i := 5) (m := .ow)) da_nil)) (de_var (i := 4) (m := .bo)))))) (dss_one (ds_append (i := 5) rfl (de_ixK K (by exact hr.units) (de_callDK K T.d_best (ok_best T) (hr.mono (by decide)) (da_cons (m' := .bo) (de_var (i := 0) (m := .bo)) (da_cons (m' := .bo) (de_var (i := 1) (m := .bo)) (da_cons (m' := .bo) (de_var (i := 2) (m := .bo)) (da_cons (m' := .bo) (de_ixK K (by exact hr.units) (de_var (i := 5) (m := .ow)) (de_neg de_int)) da_nil))))) de_int)))) (dss_one (ds_retO (i := 5)))))⟩
theorem ok_law_cell_at (T : Prg K mg) : FnOk P w K mg base CX0 1 T.d_law_cell_at.f T.d_law_cell_at.fd ["_law_script", "_law_k"] (spD K Γ [.bo, .bo] .sh den_law_cell_at) := by
  refine fn_ok (N := ["_law_script", "_law_k"]) (s := sv_law_cell_at) (M0 := [.bo, .bo]) (M' := [.bo, .bo]) T.d_law_cell_at.fn sc_law_cell_at rfl rfl rfl rfl rfl (fun cdv A outer s0 H E hr => ?_)
  exact ⟨_, (dss_cons (ds_if (dt_cmp od_lt (de_var (i := 1) (m := .bo)) (de_callB (cd_lenK K) rfl T.z_len (by decide +kernel) (da_cons (m' := .bo) (de_var (i := 0) (m := .bo)) da_nil))) (dss_one (ds_ret (de_ixK K (by exact hr.units) (de_var (i := 0) (m := .bo)) (de_var (i := 1) (m := .bo))))) dss_nil) (dss_one (ds_ret de_int)))⟩
theorem ok_law_known (T : Prg K mg) : FnOk P w K mg base CX0 1 T.d_law_known.f T.d_law_known.fd ["_law_cell"] (spD K Γ [.bo] .sh den_law_known) := by
  refine fn_ok (N := ["_law_cell", "_law_sort"]) (s := sv_law_known) (M0 := [.bo, .sh]) (M' := [.bo, .sh]) T.d_law_known.fn sc_law_known rfl rfl rfl rfl rfl (fun cdv A outer s0 H E hr => ?_)
  exact ⟨_, (dss_cons (ds_if (dt_cmp od_gt (de_op od_mod (de_var (i := 0) (m := .bo)) de_int) de_int) (dss_one (ds_ret de_non)) dss_nil) (dss_cons (ds_set (i := 1) (M1 := [.bo, .sh]) sc_law_known.nd (de_ixK K (by exact hr.units) (de_lst (da_cons (m' := .sh) de_str (da_cons (m' := .sh) de_str (da_cons (m' := .sh) de_str (da_cons (m' := .sh) de_str da_nil))))) (de_op od_mod (de_op od_div (de_var (i := 0) (m := .bo)) de_int) de_int))) (dss_cons (ds_if (dt_cmp (od_eqK K (by exact hr.units)) (de_var (i := 1) (m := .sh)) de_str) (dss_one (ds_ret (de_tup (da_cons (m' := .sh) de_str (da_cons (m' := .sh) de_int da_nil))))) dss_nil) (dss_one (ds_ret (de_tup (da_cons (m' := .sh) (de_var (i := 1) (m := .sh)) (da_cons (m' := .sh) (de_op od_mod (de_op od_div (de_var (i := 0) (m := .bo)) de_int) de_int) da_nil))))))))⟩
theorem ok_law_nexts (T : Prg K mg) : FnOk P w K mg base CX0 1 T.d_law_nexts.f T.d_law_nexts.fd ["_law_cell", "_law_many"] (spD K Γ [.bo, .bo] .ow den_law_nexts) := by
  refine fn_ok (N := ["_law_cell", "_law_many", "_law_found", "_law_k"]) (s := sv_law_nexts) (M0 := [.bo, .bo, .sh, .sh]) (M' := [.bo, .bo, .sh, .sh]) T.d_law_nexts.fn sc_law_nexts rfl rfl rfl rfl rfl (fun cdv A outer s0 H E hr => ?_)
  exact ⟨_, (dss_cons (ds_set (i := 2) (M1 := [.bo, .bo, .ow, .sh]) sc_law_nexts.nd (de_lst da_nil)) (dss_cons (ds_set (i := 0) (M1 := [.sh, .bo, .ow, .sh]) sc_law_nexts.nd (de_op od_div (de_var (i := 0) (m := .bo)) de_int)) (dss_cons (ds_for PassesOwn.never rfl (di_rng1 T.z_range (da_cons (m' := .sh) (de_op (od_addK K) de_int (de_op od_mod (de_var (i := 0) (m := .sh)) de_int)) da_nil)) (dg_name (i := 3) (M1 := [.sh, .bo, .ow, .sh]) sc_law_nexts.nd) (dss_cons (ds_append (i := 2) rfl (de_op od_mod (de_op od_div (de_var (i := 0) (m := .sh)) de_int) (de_var (i := 1) (m := .bo)))) (dss_one (ds_set (i := 0) (M1 := [.sh, .bo, .ow, .sh]) sc_law_nexts.nd (de_op (od_addK K) (de_op od_div (de_op od_div (de_var (i := 0) (m := .sh)) de_int) (de_var (i := 1) (m := .bo))) (de_op od_mulI de_int (de_var (i := 3) (m := .sh)))))))) (dss_one (ds_retO (i := 2))))))⟩
theorem ok_law_net (T : Prg K mg) : FnOk P w K mg base CX0 2 T.d_law_net.f T.d_law_net.fd ["_law_script"] (spD K Γ [.bo] .sh den_law_net) := by
  refine fn_ok (N := ["_law_script", "_law_many", "_law_nexts_here", "_law_known_here", "_law_k", "_law_cell", "_law_word", "_law_numbers_here"]) (s := sv_law_net) (M0 := [.bo, .sh, .sh, .sh, .sh, .sh, .sh, .sh]) (M' := [.bo, .sh, .sh, .sh, .sh, .sh, .sh, .sh]) T.d_law_net.fn sc_law_net rfl rfl rfl rfl rfl (fun cdv A outer s0 H E hr => ?_)
  exact ⟨_, (dss_cons (ds_set (i := 1) (M1 := [.bo, .sh, .sh, .sh, .sh, .sh, .sh, .sh]) sc_law_net.nd (de_op (od_addK K) de_int (de_op od_mod (de_callDK K T.d_law_cell_at (ok_law_cell_at T) (hr.mono (by decide)) (da_cons (m' := .bo) (de_var (i := 0) (m := .bo)) (da_cons (m' := .bo) de_int da_nil))) de_int))) (dss_cons (ds_set (i := 2) (M1 := [.bo, .sh, .ow, .sh, .sh, .sh, .sh, .sh]) sc_law_net.nd (de_lst da_nil)) (dss_cons (ds_set (i := 3) (M1 := [.bo, .sh, .ow, .ow, .sh, .sh, .sh, .sh]) sc_law_net.nd (de_lst da_nil)) (dss_cons (ds_for PassesOwn.never rfl (di_rng1 T.z_range (da_cons (m' := .sh) (de_var (i := 1) (m := .sh)) da_nil)) (dg_name (i := 4) (M1 := [.bo, .sh, .ow, .ow, .sh, .sh, .sh, .sh]) sc_law_net.nd) (dss_cons (ds_set (i := 5) (M1 := [.bo, .sh, .ow, .ow, .sh, .sh, .sh, .sh]) sc_law_net.nd (de_op od_mod (de_op od_mulI (de_callDK K T.d_law_cell_at (ok_law_cell_at T) (hr.mono (by decide)) (da_cons (m' := .bo) (de_var (i := 0) (m := .bo)) (da_cons (m' := .bo) (de_op (od_addK K) de_int (de_var (i := 4) (m := .sh))) da_nil))) de_int) de_int)) (dss_cons (ds_set (i := 6) (M1 := [.bo, .sh, .ow, .ow, .sh, .sh, .sh, .sh]) sc_law_net.nd (de_callDK K T.d_law_known (ok_law_known T) (hr.mono (by decide)) (da_cons (m' := .bo) (de_var (i := 5) (m := .sh)) da_nil))) (dss_cons (ds_append (i := 3) rfl (de_var (i := 6) (m := .sh))) (dss_cons (ds_set (i := 7) (M1 := [.bo, .sh, .ow, .ow, .sh, .sh, .sh, .sh]) sc_law_net.nd (DE.sh (de_callDK K T.d_law_nexts (ok_law_nexts T) (hr.mono (by decide)) (da_cons (m' := .bo) (de_var (i := 5) (m := .sh)) (da_cons (m' := .bo) (de_var (i := 1) (m := .sh)) da_nil))))) (dss_cons (ds_if (DW.dt (dw_and (dt_cmp od_isnot (de_var (i := 6) (m := .sh)) de_non) (dw_and1 (dt_cmp (od_eqK K (by exact hr.units)) (de_op od_mod (de_var (i := 5) (m := .sh)) de_int) de_int)))) (dss_one (ds_set (i := 7) (M1 := [.bo, .sh, .ow, .ow, .sh, .sh, .sh, .sh]) sc_law_net.nd (DE.sh (de_lst da_nil)))) dss_nil) (dss_one (ds_append (i := 2) rfl (de_var (i := 7) (m := .sh)))))))))) (dss_freeze (M1 := [.bo, .sh, .sh, .ow, .sh, .sh, .sh, .sh]) 2 (dss_freeze (M1 := [.bo, .sh, .sh, .sh, .sh, .sh, .sh, .sh]) 3 (dss_one (ds_ret (de_tup (da_cons (m' := .sh) (de_var (i := 2) (m := .sh)) (da_cons (m' := .sh) (de_var (i := 3) (m := .sh)) da_nil)))))))))))⟩
theorem ok_law_comes_up (T : Prg K mg) : FnOk P w K mg base CX0 1 T.d_law_comes_up.f T.d_law_comes_up.fd ["_law_numbers_here", "_law_words", "_law_turn"] (spD K Γ [.bo, .bo, .sh] .sh den_law_comes_up) := by
  refine fn_ok (N := ["_law_numbers_here", "_law_words", "_law_turn", "_law_number", "_law_greatest"]) (s := sv_law_comes_up) (M0 := [.bo, .bo, .sh, .sh, .sh]) (M' := [.bo, .bo, .sh, .sh, .sh]) T.d_law_comes_up.fn sc_law_comes_up rfl rfl rfl rfl rfl (fun cdv A outer s0 H E hr => ?_)
  exact ⟨_, (dss_cons (ds_for PassesOwn.never rfl (di_anyK K (de_var (i := 0) (m := .bo))) (dg_name (i := 3) (M1 := [.bo, .bo, .sh, .sh, .sh]) sc_law_comes_up.nd) (dss_one (ds_if (dt_cmp (od_eqK K (by exact hr.units)) (de_ixK K (by exact hr.units) (de_var (i := 1) (m := .bo)) (de_var (i := 3) (m := .sh))) (de_tup (da_cons (m' := .sh) de_str (da_cons (m' := .sh) (de_op od_sub (de_var (i := 2) (m := .sh)) de_int) da_nil)))) (dss_one (ds_ret (de_tup (da_cons (m' := .sh) de_str (da_cons (m' := .sh) (de_var (i := 2) (m := .sh)) da_nil))))) dss_nil))) (dss_cons (ds_set (i := 4) (M1 := [.bo, .bo, .sh, .sh, .sh]) sc_law_comes_up.nd de_int) (dss_cons (ds_for PassesOwn.never rfl (di_anyK K (de_var (i := 0) (m := .bo))) (dg_name (i := 3) (M1 := [.bo, .bo, .sh, .sh, .sh]) sc_law_comes_up.nd) (dss_cons (ds_if (DW.dt (dw_or (dt_cmp od_is (de_ixK K (by exact hr.units) (de_var (i := 1) (m := .bo)) (de_var (i := 3) (m := .sh))) de_non) (dw_or1 (dt_cmp (od_neK K (by exact hr.units)) (de_ixK K (by exact hr.units) (de_ixK K (by exact hr.units) (de_var (i := 1) (m := .bo)) (de_var (i := 3) (m := .sh))) de_int) de_str)))) (dss_one (ds_ret de_non)) dss_nil) (dss_one (ds_set (i := 4) (M1 := [.bo, .bo, .sh, .sh, .sh]) sc_law_comes_up.nd (de_callB (cd_max2 rfl) rfl T.z_max (by decide +kernel) (da_cons (m' := .sh) (de_var (i := 4) (m := .sh)) (da_cons (m' := .sh) (de_ixK K (by exact hr.units) (de_ixK K (by exact hr.units) (de_var (i := 1) (m := .bo)) (de_var (i := 3) (m := .sh))) de_int) da_nil))))))) (dss_cons (ds_if (DW.dt (dw_or (dt_cmp (od_eqK K (by exact hr.units)) (de_var (i := 0) (m := .bo)) (de_lst da_nil)) (dw_or1 (dt_cmp (od_neK K (by exact hr.units)) (de_var (i := 4) (m := .sh)) (de_op od_sub (de_var (i := 2) (m := .sh)) de_int))))) (dss_one (ds_ret de_non)) dss_nil) (dss_one (ds_ret (de_tup (da_cons (m' := .sh) de_str (da_cons (m' := .sh) (de_var (i := 2) (m := .sh)) da_nil)))))))))⟩
theorem ok_law_rounds (T : Prg K mg) : FnOk P w K mg base CX0 2 T.d_law_rounds.f T.d_law_rounds.fd ["_law_nexts_here", "_law_known_here"] (spD K Γ [.bo, .bo] .ow den_law_rounds) := by
  refine fn_ok (N := ["_law_nexts_here", "_law_known_here", "_law_words", "_law_turn", "_law_fresh", "_law_at", "_law_word"]) (s := sv_law_rounds) (M0 := [.bo, .bo, .sh, .sh, .sh, .sh, .sh]) (M' := [.bo, .bo, .sh, .sh, .sh, .sh, .sh]) T.d_law_rounds.fn sc_law_rounds rfl rfl rfl rfl rfl (fun cdv A outer s0 H E hr => ?_)
  exact ⟨_, (dss_cons (ds_set (i := 2) (M1 := [.bo, .bo, .ow, .sh, .sh, .sh, .sh]) sc_law_rounds.nd (de_op (od_mulL (m := .ow) rfl) (de_lst (da_cons (m' := .sh) de_non da_nil)) (de_callB (cd_lenK K) rfl T.z_len (by decide +kernel) (da_cons (m' := .bo) (de_var (i := 1) (m := .bo)) da_nil)))) (dss_cons (ds_for PassesOwn.never rfl (di_rng1 T.z_range (da_cons (m' := .sh) (de_op (od_addK K) (de_callB (cd_lenK K) rfl T.z_len (by decide +kernel) (da_cons (m' := .bo) (de_var (i := 1) (m := .bo)) da_nil)) de_int) da_nil)) (dg_name (i := 3) (M1 := [.bo, .bo, .ow, .sh, .sh, .sh, .sh]) sc_law_rounds.nd) (DSs.frozen (M1 := [.bo, .bo, .ow, .sh, .sh, .sh, .sh]) 4 (dss_cons (ds_set (i := 4) (M1 := [.bo, .bo, .ow, .sh, .ow, .sh, .sh]) sc_law_rounds.nd (de_lst da_nil)) (dss_cons (ds_for PassesOwn.never rfl (di_rng1 T.z_range (da_cons (m' := .sh) (de_callB (cd_lenK K) rfl T.z_len (by decide +kernel) (da_cons (m' := .bo) (de_var (i := 1) (m := .bo)) da_nil)) da_nil)) (dg_name (i := 5) (M1 := [.bo, .bo, .ow, .sh, .ow, .sh, .sh]) sc_law_rounds.nd) (dss_cons (ds_set (i := 6) (M1 := [.bo, .bo, .ow, .sh, .ow, .sh, .sh]) sc_law_rounds.nd de_non) (dss_cons (ds_if (DW.dt (dw_and (dt_cmp od_is (de_ixK K (by exact hr.units) (de_var (i := 1) (m := .bo)) (de_var (i := 5) (m := .sh))) de_non) (dw_and1 (dt_cmp od_is (de_ixK K (by exact hr.units) (de_var (i := 2) (m := .ow)) (de_var (i := 5) (m := .sh))) de_non)))) (dss_one (ds_set (i := 6) (M1 := [.bo, .bo, .ow, .sh, .ow, .sh, .sh]) sc_law_rounds.nd (de_callDK K T.d_law_comes_up (ok_law_comes_up T) (hr.mono (by decide)) (da_cons (m' := .bo) (de_ixK K (by exact hr.units) (de_var (i := 0) (m := .bo)) (de_var (i := 5) (m := .sh))) (da_cons (m' := .bo) (de_var (i := 2) (m := .ow)) (da_cons (m' := .sh) (de_var (i := 3) (m := .sh)) da_nil)))))) (dss_one (ds_if (DW.dt (dw_and (dt_cmp od_isnot (de_ixK K (by exact hr.units) (de_var (i := 1) (m := .bo)) (de_var (i := 5) (m := .sh))) de_non) (dw_and (dt_cmp (od_neK K (by exact hr.units)) (de_ixK K (by exact hr.units) (de_ixK K (by exact hr.units) (de_var (i := 1) (m := .bo)) (de_var (i := 5) (m := .sh))) de_int) de_str) (dw_and1 (dt_cmp (od_eqK K (by exact hr.units)) (de_ixK K (by exact hr.units) (de_ixK K (by exact hr.units) (de_var (i := 1) (m := .bo)) (de_var (i := 5) (m := .sh))) de_int) (de_var (i := 3) (m := .sh))))))) (dss_one (ds_set (i := 6) (M1 := [.bo, .bo, .ow, .sh, .ow, .sh, .sh]) sc_law_rounds.nd (de_ixK K (by exact hr.units) (de_var (i := 1) (m := .bo)) (de_var (i := 5) (m := .sh))))) dss_nil))) (dss_one (ds_append (i := 4) rfl (de_var (i := 6) (m := .sh))))))) (dss_one (ds_for PassesOwn.never rfl (di_rng1 T.z_range (da_cons (m' := .sh) (de_callB (cd_lenK K) rfl T.z_len (by decide +kernel) (da_cons (m' := .bo) (de_var (i := 1) (m := .bo)) da_nil)) da_nil)) (dg_name (i := 5) (M1 := [.bo, .bo, .ow, .sh, .ow, .sh, .sh]) sc_law_rounds.nd) (dss_one (ds_if (dt_cmp od_isnot (de_ixK K (by exact hr.units) (de_var (i := 4) (m := .ow)) (de_var (i := 5) (m := .sh))) de_non) (dss_one (ds_put (i := 2) rfl (by exact hr.units) (de_var (i := 5) (m := .sh)) (de_ixK K (by exact hr.units) (de_var (i := 4) (m := .ow)) (de_var (i := 5) (m := .sh))))) dss_nil)))))))) (dss_freeze (M1 := [.bo, .bo, .sh, .sh, .sh, .sh, .sh]) 2 (dss_one (ds_ret (de_lc (own := [("_law_word", 6)]) rfl sc_law_rounds.nd (blkOk_by (N := ["_law_nexts_here", "_law_known_here", "_law_words", "_law_turn", "_law_fresh", "_law_at", "_law_word"]) (sc := defScope s_law_rounds) (by decide +kernel)) (di_anyK K (de_var (i := 2) (m := .sh))) (fun _ _ _ _ _ => (dg_name (i := 6) (M1 := [.bo, .bo, .sh, .sh, .sh, .sh, .sh]) sc_law_rounds.nd)) (fun _ _ _ _ _ => dts_nil) (fun _ _ _ _ _ => (de_ifExp (dt_cmp od_is (de_var (i := 6) (m := .sh)) de_non) (de_tup (da_cons (m' := .sh) de_str (da_cons (m' := .sh) de_int da_nil))) (de_var (i := 6) (m := .sh))))))))))⟩
theorem ok_law_first (T : Prg K mg) : FnOk P w K mg base CX0 1 T.d_law_first.f T.d_law_first.fd ["_law_nexts_here", "_law_words", "_law_at"] (spD K Γ [.bo, .bo, .bo] .sh den_law_first) := by
  refine fn_ok (N := ["_law_nexts_here", "_law_words", "_law_at", "_law_sort", "_law_many", "_law_due", "_law_number"]) (s := sv_law_first) (M0 := [.bo, .bo, .bo, .sh, .sh, .sh, .sh]) (M' := [.bo, .bo, .bo, .sh, .sh, .sh, .sh]) T.d_law_first.fn sc_law_first rfl rfl rfl rfl rfl (fun cdv A outer s0 H E hr => ?_)
  exact ⟨_, (dss_cons (ds_asg (de_ixK K (by exact hr.units) (de_var (i := 1) (m := .bo)) (de_var (i := 2) (m := .bo))) (dg_tupK K rfl (dgs_cons (dg_name (i := 3) (M1 := [.bo, .bo, .bo, .sh, .sh, .sh, .sh]) sc_law_first.nd) (dgs_cons (dg_name (i := 4) (M1 := [.bo, .bo, .bo, .sh, .sh, .sh, .sh]) sc_law_first.nd) dgs_nil)))) (dss_cons (ds_set (i := 5) (M1 := [.bo, .bo, .bo, .sh, .sh, .sh, .sh]) sc_law_first.nd (de_ixK K (by exact hr.units) (de_dict (dp_cons de_str (de_tup (da_cons (m' := .sh) de_str (da_cons (m' := .sh) (de_op od_sub (de_var (i := 4) (m := .sh)) de_int) da_nil))) (dp_cons de_str (de_tup (da_cons (m' := .sh) de_str (da_cons (m' := .sh) (de_op od_sub (de_var (i := 4) (m := .sh)) de_int) da_nil))) (dp_cons de_str (de_tup (da_cons (m' := .sh) de_str (da_cons (m' := .sh) de_int da_nil))) dp_nil)))) (de_var (i := 3) (m := .sh)))) (dss_one (ds_ret (de_callB (cd_minK K rfl) rfl T.z_min (by decide +kernel) (da_cons (m' := .bo) (de_lc (own := [("_law_number", 6)]) rfl sc_law_first.nd (blkOk_by (N := ["_law_nexts_here", "_law_words", "_law_at", "_law_sort", "_law_many", "_law_due", "_law_number"]) (sc := defScope s_law_first) (by decide +kernel)) (di_anyK K (de_ixK K (by exact hr.units) (de_var (i := 0) (m := .bo)) (de_var (i := 2) (m := .bo)))) (fun _ _ _ _ _ => (dg_name (i := 6) (M1 := [.bo, .bo, .bo, .sh, .sh, .sh, .sh]) sc_law_first.nd)) (fun _ _ _ _ _ => (dts_one (dt_cmp (od_eqK K (by exact hr.units)) (de_ixK K (by exact hr.units) (de_var (i := 1) (m := .bo)) (de_var (i := 6) (m := .sh))) (de_var (i := 5) (m := .sh))))) (fun _ _ _ _ _ => (de_var (i := 6) (m := .sh)))) da_nil))))))⟩
theorem ok_law_going (T : Prg K mg) : FnOk P w K mg base CX0 2 T.d_law_going.f T.d_law_going.fd ["_law_nexts_here", "_law_known_here", "_law_words", "_law_at", "_law_most"] (spD K Γ [.bo, .bo, .bo, .sh, .sh] .ow den_law_going) := by
  refine fn_ok (N := ["_law_nexts_here", "_law_known_here", "_law_words", "_law_at", "_law_most", "_law_found", "_law_turn"]) (s := sv_law_going) (M0 := [.bo, .bo, .bo, .sh, .sh, .sh, .sh]) (M' := [.bo, .bo, .bo, .sh, .sh, .sh, .sh]) T.d_law_going.fn sc_law_going rfl rfl rfl rfl rfl (fun cdv A outer s0 H E hr => ?_)
  exact ⟨_, (dss_cons (ds_set (i := 5) (M1 := [.bo, .bo, .bo, .sh, .sh, .ow, .sh]) sc_law_going.nd (de_lst (da_cons (m' := .sh) (de_var (i := 3) (m := .sh)) da_nil))) (dss_cons (ds_for PassesOwn.never rfl (di_rng1 T.z_range (da_cons (m' := .sh) (de_var (i := 4) (m := .sh)) da_nil)) (dg_name (i := 6) (M1 := [.bo, .bo, .bo, .sh, .sh, .ow, .sh]) sc_law_going.nd) (dss_one (ds_if (dt_cmp od_is (de_ixK K (by exact hr.units) (de_var (i := 1) (m := .bo)) (de_ixK K (by exact hr.units) (de_var (i := 5) (m := .ow)) (de_neg de_int))) de_non) (dss_one (ds_append (i := 5) rfl (de_callDK K T.d_law_first (ok_law_first T) (hr.mono (by decide)) (da_cons (m' := .bo) (de_var (i := 0) (m := .bo)) (da_cons (m' := .bo) (de_var (i := 2) (m := .bo)) (da_cons (m' := .bo) (de_ixK K (by exact hr.units) (de_var (i := 5) (m := .ow)) (de_neg de_int)) da_nil)))))) dss_nil))) (dss_one (ds_retO (i := 5)))))⟩
theorem ok_law_numbers (T : Prg K mg) : FnOk P w K mg base CX0 1 T.d_law_numbers.f T.d_law_numbers.fd ["_law_found", "_law_due"] (spD K Γ [.bo, .bo] .sh den_law_numbers) := by
  refine fn_ok (N := ["_law_found", "_law_due", "_law_one"]) (s := sv_law_numbers) (M0 := [.bo, .bo, .sh]) (M' := [.bo, .bo, .sh]) T.d_law_numbers.fn sc_law_numbers rfl rfl rfl rfl rfl (fun cdv A outer s0 H E hr => ?_)
  exact ⟨_, (dss_cons (ds_if (DW.dt (dw_or (dt_not (dt_val (de_callB (cd_isiK K) rfl T.z_isinstance (by decide +kernel) (da_cons (m' := .bo) (de_var (i := 0) (m := .bo)) (da_cons (m' := .sh) (de_ty (n := "list") T.z_list) da_nil))))) (dw_or1 (dt_cmp (od_neK K (by exact hr.units)) (de_lc (own := [("_law_one", 2)]) rfl sc_law_numbers.nd (blkOk_by (N := ["_law_found", "_law_due", "_law_one"]) (sc := defScope s_law_numbers) (by decide +kernel)) (di_anyK K (de_var (i := 0) (m := .bo))) (fun _ _ _ _ _ => (dg_name (i := 2) (M1 := [.bo, .bo, .sh]) sc_law_numbers.nd)) (fun _ _ _ _ _ => (dts_one (dt_val (de_callB (cd_isiK K) rfl T.z_isinstance (by decide +kernel) (da_cons (m' := .bo) (de_var (i := 2) (m := .sh)) (da_cons (m' := .sh) (de_ty (n := "bool") T.z_bool) da_nil)))))) (fun _ _ _ _ _ => (de_var (i := 2) (m := .sh)))) (de_lst da_nil))))) (dss_one (ds_ret de_bl)) dss_nil) (dss_one (ds_ret (de_and (de_cmp (od_eqK K (by exact hr.units)) (de_lc (own := [("_law_one", 2)]) rfl sc_law_numbers.nd (blkOk_by (N := ["_law_found", "_law_due", "_law_one"]) (sc := defScope s_law_numbers) (by decide +kernel)) (di_anyK K (de_var (i := 0) (m := .bo))) (fun _ _ _ _ _ => (dg_name (i := 2) (M1 := [.bo, .bo, .sh]) sc_law_numbers.nd)) (fun _ _ _ _ _ => (dts_one (dt_not (dt_val (de_callB (cd_isiK K) rfl T.z_isinstance (by decide +kernel) (da_cons (m' := .bo) (de_var (i := 2) (m := .sh)) (da_cons (m' := .sh) (de_ty (n := "int") T.z_int) da_nil))))))) (fun _ _ _ _ _ => (de_var (i := 2) (m := .sh)))) (de_lst da_nil)) (de_one (de_cmp (od_eqK K (by exact hr.units)) (de_var (i := 0) (m := .bo)) (de_var (i := 1) (m := .bo))))))))⟩
theorem ok_law (T : Prg K mg) : FnOk P w K mg base CX0 4 T.d_law.f T.d_law.fd ["_law_script"] (spD K Γ [.bo] .sh den_law) := by
  refine fn_ok (N := ["_law_script", "_law_nexts_here", "_law_known_here", "_law_words", "_law_at", "_law_most", "_law_handed", "_law_found", "_law_whole", "_law_numbers_here"]) (s := sv_law) (M0 := [.bo, .sh, .sh, .sh, .sh, .sh, .sh, .sh, .sh, .sh]) (M' := [.bo, .sh, .sh, .sh, .sh, .sh, .sh, .sh, .sh, .sh]) T.d_law.fn sc_law rfl rfl rfl rfl rfl (fun cdv A outer s0 H E hr => ?_)
  exact ⟨_, (dss_cons (ds_asg (de_callDK K T.d_law_net (ok_law_net T) (hr.mono (by decide)) (da_cons (m' := .bo) (de_var (i := 0) (m := .bo)) da_nil)) (dg_tupK K rfl (dgs_cons (dg_name (i := 1) (M1 := [.bo, .sh, .sh, .sh, .sh, .sh, .sh, .sh, .sh, .sh]) sc_law.nd) (dgs_cons (dg_name (i := 2) (M1 := [.bo, .sh, .sh, .sh, .sh, .sh, .sh, .sh, .sh, .sh]) sc_law.nd) dgs_nil)))) (dss_cons (ds_set (i := 3) (M1 := [.bo, .sh, .sh, .sh, .sh, .sh, .sh, .sh, .sh, .sh]) sc_law.nd (DE.sh (de_callDK K T.d_law_rounds (ok_law_rounds T) (hr.mono (by decide)) (da_cons (m' := .bo) (de_var (i := 1) (m := .sh)) (da_cons (m' := .bo) (de_var (i := 2) (m := .sh)) da_nil))))) (dss_cons (ds_set (i := 4) (M1 := [.bo, .sh, .sh, .sh, .sh, .sh, .sh, .sh, .sh, .sh]) sc_law.nd (de_op od_mod (de_callDK K T.d_law_cell_at (ok_law_cell_at T) (hr.mono (by decide)) (da_cons (m' := .bo) (de_var (i := 0) (m := .bo)) (da_cons (m' := .bo) de_int da_nil))) (de_callB (cd_lenK K) rfl T.z_len (by decide +kernel) (da_cons (m' := .bo) (de_var (i := 2) (m := .sh)) da_nil)))) (dss_cons (ds_set (i := 5) (M1 := [.bo, .sh, .sh, .sh, .sh, .sh, .sh, .sh, .sh, .sh]) sc_law.nd (de_op od_mod (de_op od_div (de_callDK K T.d_law_cell_at (ok_law_cell_at T) (hr.mono (by decide)) (da_cons (m' := .bo) (de_var (i := 0) (m := .bo)) (da_cons (m' := .bo) de_int da_nil))) de_int) de_int)) (dss_cons (ds_set (i := 6) (M1 := [.bo, .sh, .sh, .sh, .sh, .sh, .sh, .sh, .sh, .sh]) sc_law.nd (de_tup (da_cons (m' := .sh) (de_lc (own := [("_law_numbers_here", 9)]) rfl sc_law.nd (blkOk_by (N := ["_law_script", "_law_nexts_here", "_law_known_here", "_law_words", "_law_at", "_law_most", "_law_handed", "_law_found", "_law_whole", "_law_numbers_here"]) (sc := defScope s_law) (by decide +kernel)) (di_anyK K (de_var (i := 1) (m := .sh))) (fun _ _ _ _ _ => (dg_name (i := 9) (M1 := [.bo, .sh, .sh, .sh, .sh, .sh, .sh, .sh, .sh, .sh]) sc_law.nd)) (fun _ _ _ _ _ => dts_nil) (fun _ _ _ _ _ => (de_callTy (cd_listK K (m := .ow) rfl) rfl T.z_list (by decide +kernel) (da_cons (m' := .bo) (de_var (i := 9) (m := .sh)) da_nil)))) (da_cons (m' := .sh) (de_callTy (cd_listK K (m := .ow) rfl) rfl T.z_list (by decide +kernel) (da_cons (m' := .bo) (de_var (i := 2) (m := .sh)) da_nil)) (da_cons (m' := .sh) (de_callTy (cd_listK K (m := .ow) rfl) rfl T.z_list (by decide +kernel) (da_cons (m' := .bo) (de_var (i := 3) (m := .sh)) da_nil)) da_nil))))) (dss_cons (ds_set (i := 7) (M1 := [.bo, .sh, .sh, .sh, .sh, .sh, .sh, .ow, .sh, .sh]) sc_law.nd (de_callDK K T.d_line (ok_line T) (hr.mono (by decide)) (da_cons (m' := .bo) (de_ixK K (by exact hr.units) (de_var (i := 6) (m := .sh)) de_int) (da_cons (m' := .bo) (de_ixK K (by exact hr.units) (de_var (i := 6) (m := .sh)) de_int) (da_cons (m' := .bo) (de_ixK K (by exact hr.units) (de_var (i := 6) (m := .sh)) de_int) (da_cons (m' := .sh) (de_var (i := 4) (m := .sh)) (da_cons (m' := .bo) (de_var (i := 5) (m := .sh)) da_nil))))))) (dss_cons (ds_if (DW.dt (dw_or (dt_not (dt_val (de_callDK K T.d_law_numbers (ok_law_numbers T) (hr.mono (by decide)) (da_cons (m' := .bo) (de_var (i := 7) (m := .ow)) (da_cons (m' := .bo) (de_callDK K T.d_law_going (ok_law_going T) (hr.mono (by decide)) (da_cons (m' := .bo) (de_var (i := 1) (m := .sh)) (da_cons (m' := .bo) (de_var (i := 2) (m := .sh)) (da_cons (m' := .bo) (de_var (i := 3) (m := .sh)) (da_cons (m' := .sh) (de_var (i := 4) (m := .sh)) (da_cons (m' := .sh) (de_var (i := 5) (m := .sh)) da_nil)))))) da_nil))))) (dw_or1 (dt_cmp (od_neK K (by exact hr.units)) (de_var (i := 6) (m := .sh)) (de_tup (da_cons (m' := .sh) (de_var (i := 1) (m := .sh)) (da_cons (m' := .sh) (de_var (i := 2) (m := .sh)) (da_cons (m' := .sh) (de_var (i := 3) (m := .sh)) da_nil)))))))) (dss_one (ds_ret de_bl)) dss_nil) (dss_cons (ds_append (i := 7) rfl (de_var (i := 4) (m := .sh))) (dss_cons (ds_if (dt_not (dt_val (de_callDK K T.d_law_numbers (ok_law_numbers T) (hr.mono (by decide)) (da_cons (m' := .bo) (de_callDK K T.d_line (ok_line T) (hr.mono (by decide)) (da_cons (m' := .bo) (de_ixK K (by exact hr.units) (de_var (i := 6) (m := .sh)) de_int) (da_cons (m' := .bo) (de_ixK K (by exact hr.units) (de_var (i := 6) (m := .sh)) de_int) (da_cons (m' := .bo) (de_ixK K (by exact hr.units) (de_var (i := 6) (m := .sh)) de_int) (da_cons (m' := .sh) (de_var (i := 4) (m := .sh)) (da_cons (m' := .bo) (de_var (i := 5) (m := .sh)) da_nil)))))) (da_cons (m' := .bo) (de_slK K (de_var (i := 7) (m := .ow)) do_none (do_some (de_neg de_int))) da_nil))))) (dss_one (ds_ret de_bl)) dss_nil) (dss_cons (ds_set (i := 8) (M1 := [.bo, .sh, .sh, .sh, .sh, .sh, .sh, .ow, .sh, .sh]) sc_law.nd (DE.sh (de_callDK K T.d_line (ok_line T) (hr.mono (by decide)) (da_cons (m' := .bo) (de_ixK K (by exact hr.units) (de_var (i := 6) (m := .sh)) de_int) (da_cons (m' := .bo) (de_ixK K (by exact hr.units) (de_var (i := 6) (m := .sh)) de_int) (da_cons (m' := .bo) (de_ixK K (by exact hr.units) (de_var (i := 6) (m := .sh)) de_int) (da_cons (m' := .sh) (de_var (i := 4) (m := .sh)) (da_cons (m' := .bo) de_int da_nil)))))))) (dss_one (ds_ret (de_or (de_cmp (od_eqK K (by exact hr.units)) (de_ixK K (by exact hr.units) (de_ixK K (by exact hr.units) (de_var (i := 3) (m := .sh)) (de_var (i := 4) (m := .sh))) de_int) de_str) (de_one (de_cmp (od_eqK K (by exact hr.units)) (de_op od_sub (de_callB (cd_lenK K) rfl T.z_len (by decide +kernel) (da_cons (m' := .bo) (de_var (i := 8) (m := .sh)) da_nil)) de_int) (de_op od_sub (de_ixK K (by exact hr.units) (de_ixK K (by exact hr.units) (de_var (i := 3) (m := .sh)) (de_var (i := 4) (m := .sh))) de_int) (de_ixK K (by exact hr.units) (de_ixK K (by exact hr.units) (de_var (i := 3) (m := .sh)) (de_ixK K (by exact hr.units) (de_var (i := 8) (m := .sh)) (de_neg de_int))) de_int)))))))))))))))))⟩
end
end Pr

namespace Pr
open PySem L2 Dl
/-! ### words by rounds, in plain Lean -/
inductive Word where | won (n : Nat) | lost (n : Nat) | even
  deriving DecidableEq
def isLost (o : Option Word) (t : Nat) : Bool := match o with | some (.lost n) => n + 1 == t | _ => false
def isWon (o : Option Word) : Bool := match o with | some (.won _) => true | _ => false
def num (o : Option Word) : Nat := match o with | some (.won n) => n | some (.lost n) => n | _ => 0
def up (xs : List Nat) (ws : Nat → Option Word) (t : Nat) : Option Word :=
  if xs.any (fun x => isLost (ws x) t) = true then some (.won t)
  else if xs.any (fun x => !isWon (ws x)) = true then none
  else if xs = [] ∨ xs.foldl (fun g x => max g (num (ws x))) 0 + 1 ≠ t then none else some (.lost t)
def isT (o : Option Word) (t : Nat) : Bool := match o with | some (.won n) => n == t | some (.lost n) => n == t | _ => false
def fr (nx : Nat → List Nat) (kn : Nat → Option Word) (ws : Nat → Option Word) (t i : Nat) : Option Word :=
  if kn i = none then (if ws i = none then up (nx i) ws t else none) else if isT (kn i) t = true then kn i else none
def W (nx : Nat → List Nat) (kn : Nat → Option Word) : Nat → Nat → Option Word
  | 0, _ => none
  | t + 1, i => match fr nx kn (W nx kn t) t i with | some x => some x | none => W nx kn t i
section
variable {nx : Nat → List Nat} {kn : Nat → Option Word}
theorem num_le_fold (ws : Nat → Option Word) : ∀ (xs : List Nat) (a : Nat), a ≤ xs.foldl (fun g x => max g (num (ws x))) a ∧ (∀ x ∈ xs, num (ws x) ≤ xs.foldl (fun g x => max g (num (ws x))) a) ∧ (xs.foldl (fun g x => max g (num (ws x))) a = a ∨ ∃ x ∈ xs, num (ws x) = xs.foldl (fun g x => max g (num (ws x))) a)
  | [], a => ⟨Nat.le_refl _, fun x h => by simp at h, .inl rfl⟩
  | y :: xs, a => by
    obtain ⟨h1, h2, h3⟩ := num_le_fold ws xs (max a (num (ws y)))
    rw [List.foldl_cons]
    refine ⟨by omega, fun x hx => ?_, ?_⟩
    · rcases List.mem_cons.mp hx with rfl | hx
      · omega
      · exact h2 x hx
    · rcases h3 with h3 | ⟨x, hx, h3⟩
      · by_cases c : num (ws y) ≤ a
        · left; omega
        · right; exact ⟨y, List.mem_cons_self, by omega⟩
      · exact .inr ⟨x, List.mem_cons_of_mem _ hx, h3⟩
theorem up_some {xs : List Nat} {ws : Nat → Option Word} {t : Nat} {v : Word} (h : up xs ws t = some v) : (v = .won t ∧ ∃ x ∈ xs, ∃ n, ws x = some (.lost n) ∧ n + 1 = t) ∨ (v = .lost t ∧ (∃ x ∈ xs, ∃ n, ws x = some (.won n) ∧ n + 1 = t)) := by
  unfold up at h
  by_cases c : xs.any (fun x => isLost (ws x) t) = true
  · rw [if_pos c] at h
    obtain ⟨x, hx, e⟩ := List.any_eq_true.mp c
    refine .inl ⟨(Option.some.inj h).symm, x, hx, ?_⟩
    unfold isLost at e
    split at e
    · rename_i n q; exact ⟨n, q, by simpa using e⟩
    · cases e
  · rw [if_neg c] at h
    by_cases d : xs.any (fun x => !isWon (ws x)) = true
    · rw [if_pos d] at h; cases h
    · rw [if_neg d] at h
      by_cases g : xs = [] ∨ xs.foldl (fun g x => max g (num (ws x))) 0 + 1 ≠ t
      · rw [if_pos g] at h; cases h
      · rw [if_neg g] at h
        have ge : xs ≠ [] ∧ xs.foldl (fun g x => max g (num (ws x))) 0 + 1 = t := ⟨fun e => g (.inl e), Classical.byContradiction fun e => g (.inr e)⟩
        refine .inr ⟨(Option.some.inj h).symm, ?_⟩
        have won : ∀ x ∈ xs, ∃ n, ws x = some (.won n) := fun x hx => by
          have := fun z => d (List.any_eq_true.mpr ⟨x, hx, z⟩)
          cases q : ws x with
          | none => rw [q] at this; exact absurd rfl this
          | some v => cases v with
            | won n => exact ⟨n, rfl⟩
            | lost n => rw [q] at this; exact absurd rfl this
            | even => rw [q] at this; exact absurd rfl this
        obtain ⟨_, h2, h3⟩ := num_le_fold ws xs 0
        rcases h3 with h3 | ⟨x, hx, h3⟩
        · cases xs with
          | nil => exact absurd rfl ge.1
          | cons x xs =>
            obtain ⟨n, e⟩ := won x List.mem_cons_self
            have := h2 x List.mem_cons_self
            rw [e, h3] at this
            have z : n = 0 := by simpa [num] using this
            exact ⟨x, List.mem_cons_self, n, e, by omega⟩
        · obtain ⟨n, e⟩ := won x hx
          rw [e] at h3
          exact ⟨x, hx, n, e, by have : n = _ := h3; omega⟩
/-- a word of number n is put in turn n, and stays -/
def numOf : Word → Option Nat
  | .won n => some n
  | .lost n => some n
  | .even => none
theorem fr_num {ws : Nat → Option Word} {t i : Nat} {v : Word} (h : fr nx kn ws t i = some v) : numOf v = some t := by
  unfold fr at h
  by_cases c : kn i = none
  · rw [if_pos c] at h
    by_cases d : ws i = none
    · rw [if_pos d] at h
      rcases up_some h with ⟨rfl, _⟩ | ⟨rfl, _⟩ <;> rfl
    · rw [if_neg d] at h; cases h
  · rw [if_neg c] at h
    by_cases d : isT (kn i) t = true
    · rw [if_pos d] at h
      rw [h] at d
      cases v with
      | won n => have : n = t := by simpa [isT] using d
                 rw [this]; rfl
      | lost n => have : n = t := by simpa [isT] using d
                  rw [this]; rfl
      | even => cases d
    · rw [if_neg d] at h; cases h
theorem W_succ (t i : Nat) : W nx kn (t + 1) i = match fr nx kn (W nx kn t) t i with | some x => some x | none => W nx kn t i := rfl
theorem W_num {t i : Nat} {v : Word} : W nx kn t i = some v → ∃ n, numOf v = some n ∧ n < t := by
  induction t with
  | zero => intro h; cases h
  | succ t ih =>
    intro h
    rw [W_succ] at h
    cases q : fr nx kn (W nx kn t) t i with
    | some x => rw [q] at h; cases h; exact ⟨t, fr_num q, Nat.lt_succ_self _⟩
    | none => rw [q] at h; obtain ⟨n, a, b⟩ := ih h; exact ⟨n, a, by omega⟩
/-- once put, it stays -/
theorem W_step {t i : Nat} {v : Word} (h : W nx kn t i = some v) : W nx kn (t + 1) i = some v := by
  rw [W_succ]
  cases q : fr nx kn (W nx kn t) t i with
  | none => exact h
  | some x =>
    exfalso
    unfold fr at q
    by_cases c : kn i = none
    · rw [if_pos c, h] at q
      simp at q
    · rw [if_neg c] at q
      by_cases d : isT (kn i) t = true
      · rw [if_pos d] at q
        -- a known place has its own word
        have own : ∀ s u, W nx kn s i = some u → kn i = some u := fun s => by
          induction s with
          | zero => intro u e; cases e
          | succ s ih =>
            intro u e
            rw [W_succ] at e
            cases z : fr nx kn (W nx kn s) s i with
            | some y =>
              rw [z] at e
              unfold fr at z
              rw [if_neg c] at z
              by_cases k : isT (kn i) s = true
              · rw [if_pos k] at z; rw [z]; exact e
              · rw [if_neg k] at z; cases z
            | none => rw [z] at e; exact ih u e
        have e := own t v h
        obtain ⟨n, a, b⟩ := W_num h
        rw [e] at d
        cases v with
        | won n' => have : n' = t := by simpa [isT] using d
                    have : n' = n := Option.some.inj a
                    omega
        | lost n' => have : n' = t := by simpa [isT] using d
                     have : n' = n := Option.some.inj a
                     omega
        | even => cases d
      · rw [if_neg d] at q; cases q
theorem W_mono {t u i : Nat} {v : Word} (h : W nx kn t i = some v) (hu : t ≤ u) : W nx kn u i = some v := by
  induction u with
  | zero => have : t = 0 := by omega
            subst this; exact h
  | succ u ih =>
    by_cases c : t = u + 1
    · subst c; exact h
    · exact W_step (ih (by omega))
/-- it has been put in its turn -/
theorem W_born {t i : Nat} {v : Word} : W nx kn t i = some v → ∀ n, numOf v = some n → W nx kn (n + 1) i = some v ∧ fr nx kn (W nx kn n) n i = some v := by
  induction t with
  | zero => intro h; cases h
  | succ t ih =>
    intro h n hn
    rw [W_succ] at h
    cases q : fr nx kn (W nx kn t) t i with
    | some x =>
      rw [q] at h
      cases h
      have e := fr_num q
      rw [hn] at e
      cases e
      exact ⟨by rw [W_succ, q], q⟩
    | none => rw [q] at h; exact ih h n hn
/-- an unknown place's word comes of its followers -/
theorem W_from {t i : Nat} {v : Word} (h : W nx kn t i = some v) (hk : kn i = none) : (∃ n, v = .won (n + 1) ∧ ∃ x ∈ nx i, W nx kn t x = some (.lost n)) ∨ (∃ n, v = .lost (n + 1) ∧ ∃ x ∈ nx i, W nx kn t x = some (.won n)) := by
  obtain ⟨n, hn, hl⟩ := W_num h
  obtain ⟨_, hf⟩ := W_born h n hn
  unfold fr at hf
  rw [if_pos hk] at hf
  by_cases c : W nx kn n i = none
  · rw [if_pos c] at hf
    rcases up_some hf with ⟨rfl, x, hx, k, e, hk'⟩ | ⟨rfl, x, hx, k, e, hk'⟩
    · exact .inl ⟨k, by rw [hk'], x, hx, W_mono e (by omega)⟩
    · exact .inr ⟨k, by rw [hk'], x, hx, W_mono e (by omega)⟩
  · rw [if_neg c] at hf; cases hf
theorem length_sub {l m : List Nat} (nd : l.Nodup) (h : ∀ x ∈ l, x ∈ m) : l.length ≤ m.length := by
  induction l generalizing m with
  | nil => exact Nat.zero_le _
  | cons a l ih =>
    obtain ⟨h1, h2⟩ := List.nodup_cons.mp nd
    have ha : a ∈ m := h a List.mem_cons_self
    have := ih (m := m.erase a) h2 fun x hx => by
      have ne : x ≠ a := fun e => h1 (e ▸ hx)
      exact (List.mem_erase_of_ne ne).mpr (h x (List.mem_cons_of_mem _ hx))
    rw [List.length_erase_of_mem ha] at this
    have hp : 0 < m.length := List.length_pos_of_mem ha
    rw [List.length_cons]
    omega
/-- no number is beyond the known ones' and the places' number -/
theorem W_bound {m t i : Nat} {v : Word} {n : Nat} (hi : i < m) (hx : ∀ j, j < m → ∀ x ∈ nx j, x < m) (hk : ∀ j v n, j < m → kn j = some v → numOf v = some n → n ≤ 6) (h : W nx kn t i = some v) (hn : numOf v = some n) : n ≤ m + 6 := by
  refine Classical.byContradiction fun big => ?_
  -- every number from 7 up to n occurs
  have key : ∀ d, d ≤ n → n - d ≥ 6 → ∃ j, j < m ∧ ∃ u, W nx kn t j = some u ∧ numOf u = some (n - d) := fun d => by
    induction d with
    | zero => intro _ _; exact ⟨i, hi, v, h, hn⟩
    | succ d ih =>
      intro h1 h2
      obtain ⟨j, hj, u, hu, hd⟩ := ih (by omega) (by omega)
      have kj : kn j = none := by
        cases q : kn j with
        | none => rfl
        | some y =>
          exfalso
          obtain ⟨_, hf⟩ := W_born hu _ hd
          unfold fr at hf
          rw [if_neg (by rw [q]; simp)] at hf
          by_cases z : isT (kn j) (n - d) = true
          · rw [if_pos z] at hf
            have := hk j u _ hj hf hd
            omega
          · rw [if_neg z] at hf; cases hf
      rcases W_from hu kj with ⟨p, rfl, x, hx', e⟩ | ⟨p, rfl, x, hx', e⟩
      · have : p + 1 = n - d := Option.some.inj hd
        exact ⟨x, hx j hj x hx', _, e, by show some p = _; congr 1; omega⟩
      · have : p + 1 = n - d := Option.some.inj hd
        exact ⟨x, hx j hj x hx', _, e, by show some p = _; congr 1; omega⟩
  have := length_sub (l := (List.range (m + 1)).map (· + 7)) (m := (List.range m).map fun j => num (W nx kn t j)) (by
    show List.Pairwise _ _
    rw [List.pairwise_map]
    exact List.Pairwise.imp (fun {a b} hab (e : a + 7 = b + 7) => hab (by omega)) (List.nodup_range (n := m + 1))) (fun x hx' => by
    obtain ⟨y, hy, rfl⟩ := List.mem_map.mp hx'
    have hy := List.mem_range.mp hy
    obtain ⟨j, hj, u, hu, hd⟩ := key (n - (y + 7)) (by omega) (by omega)
    refine List.mem_map.mpr ⟨j, List.mem_range.mpr hj, ?_⟩
    rw [hu]
    cases u with
    | won k => have : k = _ := Option.some.inj hd; show k = y + 7; omega
    | lost k => have : k = _ := Option.some.inj hd; show k = y + 7; omega
    | even => cases hd)
  rw [List.length_map, List.length_map, List.length_range, List.length_range] at this
  omega
/-- where all followers have words, the place has one, in time -/
theorem W_all {m i : Nat} (hi : i < m) (hx : ∀ j, j < m → ∀ x ∈ nx j, x < m) (hk : ∀ j v n, j < m → kn j = some v → numOf v = some n → n ≤ 6) (hu : kn i = none) (ne : nx i ≠ []) (h : ∀ x ∈ nx i, W nx kn (m + 8) x ≠ none) : W nx kn (m + 8) i ≠ none := by
  intro hn
  have none_at : ∀ t, t ≤ m + 8 → W nx kn t i = none := fun t ht => by
    cases q : W nx kn t i with
    | none => rfl
    | some v => rw [W_mono q ht] at hn; cases hn
  have frn : ∀ t, t < m + 8 → up (nx i) (W nx kn t) t = none := fun t ht => by
    have e := none_at (t + 1) ht
    rw [W_succ] at e
    cases q : fr nx kn (W nx kn t) t i with
    | some x => rw [q] at e; cases e
    | none =>
      unfold fr at q
      rw [if_pos hu, if_pos (none_at t (by omega))] at q
      exact q
  have num_lt : ∀ x ∈ nx i, ∀ v n, W nx kn (m + 8) x = some v → numOf v = some n → n ≤ m + 6 := fun x hxi v n e en => W_bound (hx i hi x hxi) hx hk e en
  by_cases c : ∃ x ∈ nx i, ∃ n, W nx kn (m + 8) x = some (.lost n)
  · obtain ⟨x, hxi, n, e⟩ := c
    have b := num_lt x hxi _ n e rfl
    have e2 := (W_born e n rfl).1
    have u := frn (n + 1) (by omega)
    unfold up at u
    rw [if_pos (List.any_eq_true.mpr ⟨x, hxi, by rw [e2]; show (n + 1 == n + 1) = true; exact beq_self_eq_true _⟩)] at u
    cases u
  · have won : ∀ x ∈ nx i, ∃ n, W nx kn (m + 8) x = some (.won n) := fun x hxi => by
      cases q : W nx kn (m + 8) x with
      | none => exact absurd q (h x hxi)
      | some v =>
        obtain ⟨n, a, _⟩ := W_num q
        cases v with
        | won k => exact ⟨k, rfl⟩
        | lost k => exact absurd ⟨x, hxi, k, q⟩ c
        | even => cases a
    obtain ⟨_, h2, h3⟩ := num_le_fold (W nx kn (m + 8)) (nx i) 0
    generalize hg : (nx i).foldl (fun g x => max g (num (W nx kn (m + 8) x))) 0 = g at h2 h3
    have gb : g ≤ m + 6 := by
      rcases h3 with h3 | ⟨x, hxi, h3⟩
      · omega
      · obtain ⟨n, e⟩ := won x hxi
        rw [e] at h3
        have := num_lt x hxi _ n e rfl
        have : n = g := h3
        omega
    -- at turn g + 1 all stand
    have same : ∀ x ∈ nx i, W nx kn (g + 1) x = W nx kn (m + 8) x := fun x hxi => by
      obtain ⟨n, e⟩ := won x hxi
      have le := h2 x hxi
      rw [e] at le
      have le : n ≤ g := le
      rw [e]
      exact W_mono (W_born e n rfl).1 (by omega)
    have u := frn (g + 1) (by omega)
    unfold up at u
    rw [if_neg (fun z => by
      obtain ⟨x, hxi, e⟩ := List.any_eq_true.mp z
      obtain ⟨n, e2⟩ := won x hxi
      rw [same x hxi, e2] at e
      cases e), if_neg (fun z => by
      obtain ⟨x, hxi, e⟩ := List.any_eq_true.mp z
      obtain ⟨n, e2⟩ := won x hxi
      rw [same x hxi, e2] at e
      cases e)] at u
    have fe : (nx i).foldl (fun g x => max g (num (W nx kn (g + 1) x))) 0 = (nx i).foldl (fun g x => max g (num (W nx kn (g + 1) x))) 0 := rfl
    have cong : ∀ (xs : List Nat) (a : Nat), (∀ x ∈ xs, x ∈ nx i) → xs.foldl (fun a x => max a (num (W nx kn (g + 1) x))) a = xs.foldl (fun a x => max a (num (W nx kn (m + 8) x))) a := fun xs => by
      induction xs with
      | nil => intro a _; rfl
      | cons x xs ih =>
        intro a hs
        rw [List.foldl_cons, List.foldl_cons, same x (hs x List.mem_cons_self)]
        exact ih _ fun y hy => hs y (List.mem_cons_of_mem _ hy)
    rw [cong (nx i) 0 (fun _ h => h), hg, if_neg (by rintro (z | z); exact ne z; exact z rfl)] at u
    cases u
end
def fin (nx : Nat → List Nat) (kn : Nat → Option Word) (m i : Nat) : Word := (W nx kn (m + 8) i).getD .even
def want : Word → Word
  | .won n => .lost (n - 1)
  | .lost n => .won (n - 1)
  | .even => .even
/-- an unknown place has a best follower -/
theorem best_ex {nx : Nat → List Nat} {kn : Nat → Option Word} {m i : Nat} (hi : i < m) (hx : ∀ j, j < m → ∀ x ∈ nx j, x < m) (hk : ∀ j v n, j < m → kn j = some v → numOf v = some n → n ≤ 6) (hu : kn i = none) (ne : nx i ≠ []) : ∃ x ∈ nx i, fin nx kn m x = want (fin nx kn m i) := by
  unfold fin
  cases q : W nx kn (m + 8) i with
  | none =>
    have : ¬ ∀ x ∈ nx i, W nx kn (m + 8) x ≠ none := fun h => W_all hi hx hk hu ne h q
    have ⟨x, hx'⟩ := Classical.not_forall.mp this
    have ⟨h1, h2⟩ := Classical.not_imp.mp hx'
    have h2 : W nx kn (m + 8) x = none := Classical.byContradiction h2
    exact ⟨x, h1, by rw [h2]; rfl⟩
  | some v =>
    rcases W_from q hu with ⟨n, rfl, x, h1, e⟩ | ⟨n, rfl, x, h1, e⟩
    · exact ⟨x, h1, by rw [e]; rfl⟩
    · exact ⟨x, h1, by rw [e]; rfl⟩
end Pr
namespace Pr
open PySem L2 Dl
/-! ### words as data -/
def encW : Word → D
  | .won n => .tup [.str "won", .int (n : Int)]
  | .lost n => .tup [.str "lost", .int (n : Int)]
  | .even => .tup [.str "even", .int 0]
def encO : Option Word → D
  | none => .non
  | some w => encW w
@[simp] theorem s1 : (("won" : Str) == ("lost" : Str)) = false := by decide +kernel
@[simp] theorem s2 : (("lost" : Str) == ("won" : Str)) = false := by decide +kernel
@[simp] theorem s3 : (("won" : Str) == ("even" : Str)) = false := by decide +kernel
@[simp] theorem s4 : (("even" : Str) == ("won" : Str)) = false := by decide +kernel
@[simp] theorem s5 : (("lost" : Str) == ("even" : Str)) = false := by decide +kernel
@[simp] theorem s6 : (("even" : Str) == ("lost" : Str)) = false := by decide +kernel
theorem isNon_encW (w : Word) : isNon (encW w) = false := by cases w <;> rfl
theorem isNon_encO (o : Option Word) : isNon (encO o) = o.isNone := by
  cases o with
  | none => rfl
  | some w => exact isNon_encW w
theorem fit_encW (w : Word) : fitN 1 (encW w) := by cases w <;> exact fit_pair _ _
theorem fit_encO (o : Option Word) : fitN 1 (encO o) := by
  cases o with
  | none => exact fit_non _
  | some w => exact fit_encW w
theorem opEq_encW (a b : Word) : opEq (encW a) (encW b) = some (.bl (decide (a = b))) := by
  cases a with
  | won n =>
    cases b with
    | won k =>
      show opEq (.tup [.str "won", .int (n : Int)]) (.tup [.str "won", .int (k : Int)]) = _
      rw [opEq_pair, beq_self_eq_true, Bool.true_and]
      congr 2
      by_cases h : n = k
      · subst h; simp
      · rw [decide_eq_false (fun e => h (Word.won.inj e))]
        exact beq_eq_false_iff_ne.mpr (by omega)
    | lost k => exact (opEq_pair _ _ _ _).trans (by simp)
    | even => exact (opEq_pair _ _ _ _).trans (by simp)
  | lost n =>
    cases b with
    | won k => exact (opEq_pair _ _ _ _).trans (by simp)
    | lost k =>
      show opEq (.tup [.str "lost", .int (n : Int)]) (.tup [.str "lost", .int (k : Int)]) = _
      rw [opEq_pair, beq_self_eq_true, Bool.true_and]
      congr 2
      by_cases h : n = k
      · subst h; simp
      · rw [decide_eq_false (fun e => h (Word.lost.inj e))]
        exact beq_eq_false_iff_ne.mpr (by omega)
    | even => exact (opEq_pair _ _ _ _).trans (by simp)
  | even =>
    cases b with
    | won k => exact (opEq_pair _ _ _ _).trans (by simp)
    | lost k => exact (opEq_pair _ _ _ _).trans (by simp)
    | even => exact (opEq_pair _ _ _ _).trans (by simp)
theorem opEq_lost (o : Option Word) (t : Nat) : opEq (encO o) (.tup [.str "lost", .int ((t : Int) - 1)]) = some (.bl (isLost o t)) := by
  cases o with
  | none => exact opEq_non_pair _ _
  | some w =>
    cases w with
    | won n => exact (opEq_pair _ _ _ _).trans (by simp [isLost])
    | even => exact (opEq_pair _ _ _ _).trans (by simp [isLost])
    | lost n =>
      refine (opEq_pair _ _ _ _).trans ?_
      rw [beq_self_eq_true, Bool.true_and]
      show some (D.bl ((n : Int) == (t : Int) - 1)) = some (D.bl (n + 1 == t))
      congr 2
      by_cases h : n + 1 = t
      · rw [beq_iff_eq.mpr h]; exact beq_iff_eq.mpr (by omega)
      · rw [beq_eq_false_iff_ne.mpr h]; exact beq_eq_false_iff_ne.mpr (by omega)
/-! ### a place comes up -/
theorem up_turn0 {xs : List Nat} {m x t : Nat} (w : Nat → Option Word) (hx : x < m) (o : Option D) : b0_law_comes_up [some (.lst (nats xs)), some (.lst (tab m fun j => encO (w j))), some (.int (t : Int)), some (.int (x : Int)), o] = if isLost (w x) t = true then some (.rt (encW (.won t))) else some (.nx [some (.lst (nats xs)), some (.lst (tab m fun j => encO (w j))), some (.int (t : Int)), some (.int (x : Int)), o]) := by
  unfold b0_law_comes_up
  cases q : isLost (w x) t <;> simp [tab_at hx, opEq_lost, q, encW]
theorem up_turn1 {xs : List Nat} {m x t g : Nat} (w : Nat → Option Word) (hx : x < m) : b1_law_comes_up [some (.lst (nats xs)), some (.lst (tab m fun j => encO (w j))), some (.int (t : Int)), some (.int (x : Int)), some (.int (g : Int))] = if (!isWon (w x)) = true then some (.rt .non) else some (.nx [some (.lst (nats xs)), some (.lst (tab m fun j => encO (w j))), some (.int (t : Int)), some (.int (x : Int)), some (.int ((max g (num (w x)) : Nat) : Int))]) := by
  unfold b1_law_comes_up
  cases q : w x with
  | none => simp [tab_at hx, q, encO, isWon]
  | some v =>
    cases v with
    | lost n => simp [tab_at hx, q, encO, encW, isWon]
    | even => simp [tab_at hx, q, encO, encW, isWon]
    | won n =>
      have e : opMax2 [.int (g : Int), .int (n : Int)] = some (.int ((max g n : Nat) : Int)) := by
        show some (D.int (if (n : Int) > (g : Int) then (n : Int) else (g : Int))) = _
        congr 2
        split <;> omega
      simp [tab_at hx, q, encO, encW, isWon, e, num]
theorem law_comes_up_eq {xs : List Nat} {m t : Nat} (w : Nat → Option Word) (hx : ∀ x ∈ xs, x < m) : den_law_comes_up [.lst (nats xs), .lst (tab m fun j => encO (w j)), .int (t : Int)] = some (encO (up xs w t)) := by
  refine denOf_some rfl ?_
  obtain ⟨a1, a2⟩ := forD_search (set := hName 3) (body := b0_law_comes_up) (enc := fun (x : Nat) => D.int (x : Int)) (fun δ => ∃ o o2, δ = [some (.lst (nats xs)), some (.lst (tab m fun j => encO (w j))), some (.int (t : Int)), o, o2]) (fun x => isLost (w x) t) (fun _ => encW (.won t)) (xs := xs) (δ := [some (.lst (nats xs)), some (.lst (tab m fun j => encO (w j))), some (.int (t : Int)), none, none]) ⟨none, none, rfl⟩ (by
    rintro δ x hxs ⟨o, o2, rfl⟩
    have e := up_turn0 (xs := xs) (t := t) w (hx x hxs) o2
    refine ⟨_, rfl, fun q => ?_, fun q => ?_⟩
    · rw [q, if_pos rfl] at e; exact e
    · rw [q, if_neg Bool.false_ne_true] at e; exact ⟨_, e, _, _, rfl⟩)
  have go := fun o => forD_until (set := hName 3) (body := b1_law_comes_up) (enc := fun (x : Nat) => D.int (x : Int)) (bad := fun x => !isWon (w x)) (v := .non) (fun (g : Nat) δ => ∃ o, δ = [some (.lst (nats xs)), some (.lst (tab m fun j => encO (w j))), some (.int (t : Int)), o, some (.int (g : Int))]) (fun g x => max g (num (w x))) (xs := xs) (s := 0) (δ := [some (.lst (nats xs)), some (.lst (tab m fun j => encO (w j))), some (.int (t : Int)), o, some (.int 0)]) ⟨o, rfl⟩ (by
    rintro g δ x hxs ⟨o, rfl⟩
    have e := up_turn1 (xs := xs) (t := t) (g := g) w (hx x hxs)
    refine ⟨_, rfl, fun q => ?_, fun q => ?_⟩
    · rw [q, if_pos rfl] at e; exact e
    · rw [q, if_neg Bool.false_ne_true] at e; exact ⟨_, e, _, rfl⟩)
  unfold sv_law_comes_up up
  have fold : (xs.map fun (x : Nat) => D.int (x : Int)) = nats xs := rfl
  rw [fold] at a1 a2 go
  show sSeq (sFor (iAnyF (vVar 0)) (hName 3) b0_law_comes_up) _ [some (.lst (nats xs)), some (.lst (tab m fun j => encO (w j))), some (.int (t : Int)), none, none] = _
  rw [sSeq_def, sFor_def, show iAnyF (vVar 0) [some (.lst (nats xs)), some (.lst (tab m fun j => encO (w j))), some (.int (t : Int)), none, none] = some (nats xs) by simp, Option.bind_some]
  cases q : xs.find? (fun x => isLost (w x) t) with
  | some x =>
    rw [a1 x q, if_pos (List.any_eq_true.mpr ⟨x, List.mem_of_find?_eq_some q, List.find?_some (p := fun x => isLost (w x) t) q⟩)]
    rfl
  | none =>
    obtain ⟨δ', e, o, o2, rfl⟩ := a2 q
    rw [e, if_neg (by
      intro z
      obtain ⟨x, hxs, h⟩ := List.any_eq_true.mp z
      exact List.find?_eq_none.mp q x hxs h), Option.bind_some]
    show sSeq (sSet 4 (vC (.int 0))) _ [some (.lst (nats xs)), some (.lst (tab m fun j => encO (w j))), some (.int (t : Int)), o, o2] = _
    rw [sSeq_def, sSet_def, vC_def, Option.map_some, Option.bind_some]
    show sSeq (sFor (iAnyF (vVar 0)) (hName 3) b1_law_comes_up) _ [some (.lst (nats xs)), some (.lst (tab m fun j => encO (w j))), some (.int (t : Int)), o, some (.int 0)] = _
    rw [sSeq_def, sFor_def, show iAnyF (vVar 0) [some (.lst (nats xs)), some (.lst (tab m fun j => encO (w j))), some (.int (t : Int)), o, some (.int 0)] = some (nats xs) by simp, Option.bind_some]
    obtain ⟨g1, g2⟩ := go o
    cases d : xs.any (fun x => !isWon (w x)) with
    | true => rw [g1 d, if_pos rfl]; rfl
    | false =>
      obtain ⟨δ', e, o3, rfl⟩ := g2 d
      rw [e, if_neg Bool.false_ne_true, Option.bind_some]
      generalize xs.foldl (fun g x => max g (num (w x))) 0 = g
      have em : opEq (.lst (nats xs)) (.lst []) = some (.bl (nats xs).isEmpty) := opEq_nil (fit_nats xs 0)
      cases xs with
      | nil =>
        have em : opEq (.lst (nats [])) (.lst []) = some (.bl true) := em
        simp [em, encO]
      | cons x xs =>
        have em : opEq (.lst (nats (x :: xs))) (.lst []) = some (.bl false) := em
        by_cases c : g + 1 = t
        · have c' : (g : Int) = (t : Int) - 1 := by omega
          simp [em, c, c', encO, encW]
        · have c' : ¬ (g : Int) = (t : Int) - 1 := by omega
          simp [em, c, c', encO]

/-! ### the rounds -/
@[simp] theorem encO_none : encO none = .non := rfl
@[simp] theorem encO_some (w : Word) : encO (some w) = encW w := rfl
@[simp] theorem encW_won (n : Nat) : encW (.won n) = .tup [.str "won", .int (n : Int)] := rfl
@[simp] theorem encW_lost (n : Nat) : encW (.lost n) = .tup [.str "lost", .int (n : Int)] := rfl
@[simp] theorem encW_even : encW .even = .tup [.str "even", .int 0] := rfl
theorem int_beq (n t : Nat) : ((n : Int) == (t : Int)) = (n == t) := by
  by_cases h : n = t
  · subst h; simp
  · rw [beq_eq_false_iff_ne.mpr h]; exact beq_eq_false_iff_ne.mpr (by omega)
theorem opMul_rep (d : D) (m : Nat) (h : m ≤ 1000) : opMul (.lst [d]) (.int (m : Int)) = some (.lst (List.replicate m d)) := by
  unfold opMul
  dsimp only
  have h1 : [d].length * (m : Int).toNat ≤ sizeLine := le1000 (by show 1 * (m : Int).toNat ≤ 1000; omega)
  rw [if_pos ⟨by omega, by omega, h1⟩, Int.toNat_natCast, List.flatten_replicate_singleton]

section
variable {nx : Nat → List Nat} {kn : Nat → Option Word} {m : Nat}
abbrev nxD (m : Nat) (nx : Nat → List Nat) : List D := tab m fun j => .lst (nats (nx j))
abbrev woD (m : Nat) (w : Nat → Option Word) : List D := tab m fun j => encO (w j)
theorem known_turn (o : Option Word) (t : Nat) (ho : o ≠ none) (δ : Dl.Env) (f g : Ev) (hf : f δ = some (encO o)) (hg : g δ = some (.int (t : Int))) : bAnd (vTst (v2 opNot f (vC .non))) (bAnd (vTst (v2 opNe (v2 opIx f (vC (.int 0))) (vC (.str "even")))) (vTst (v2 opEq (v2 opIx f (vC (.int 1))) g))) δ = some (isT o t) := by
  cases o with
  | none => exact absurd rfl ho
  | some v =>
    cases v with
    | even => simp [hf, hg, isT]
    | won n =>
      simp [hf, hg, isT, int_beq]
    | lost n =>
      simp [hf, hg, isT, int_beq]
theorem round_turn0 (hx : ∀ j, j < m → ∀ x ∈ nx j, x < m) (w : Nat → Option Word) {t i : Nat} (hi : i < m) (fs : List D) (hfs : fs.length ≤ 20) (o : Option D) : b0_law_rounds [some (.lst (nxD m nx)), some (.lst (woD m kn)), some (.lst (woD m w)), some (.int (t : Int)), some (.lst fs), some (.int (i : Int)), o] = some (.nx [some (.lst (nxD m nx)), some (.lst (woD m kn)), some (.lst (woD m w)), some (.int (t : Int)), some (.lst (fs ++ [encO (fr nx kn w t i)])), some (.int (i : Int)), some (encO (fr nx kn w t i))]) := by
  have hl : fs.length < sizeLine := Nat.lt_of_le_of_lt hfs (by decide)
  have cu := law_comes_up_eq (t := t) w (hx i hi)
  unfold b0_law_rounds fr
  by_cases c : kn i = none
  · by_cases d : w i = none
    · simp [nxD, woD, tab_at hi, c, d, cu, hl]
    · have d2 : (w i).isNone = false := by
        cases q : w i with
        | none => exact absurd q d
        | some v => rfl
      simp [nxD, woD, tab_at hi, c, d, isNon_encO, d2, hl]
  · have c2 : (kn i).isNone = false := by
      cases q : kn i with
      | none => exact absurd q c
      | some v => rfl
    have kt := known_turn (kn i) t c [some (.lst (nxD m nx)), some (.lst (woD m kn)), some (.lst (woD m w)), some (.int (t : Int)), some (.lst fs), some (.int (i : Int)), some .non] (v2 opIx (vVar 1) (vVar 5)) (vVar 3) (by simp [woD, tab_at hi]) (by simp)
    rw [sSeq_def, sSet_def, vC_def, Option.map_some, Option.bind_some]
    show sSeq (sIf _ _ _) _ [some (.lst (nxD m nx)), some (.lst (woD m kn)), some (.lst (woD m w)), some (.int (t : Int)), some (.lst fs), some (.int (i : Int)), some .non] = _
    rw [sSeq_def, sIf_def, show bAnd (vTst (v2 opIs (v2 opIx (vVar 1) (vVar 5)) (vC .non))) (vTst (v2 opIs (v2 opIx (vVar 2) (vVar 5)) (vC .non))) [some (.lst (nxD m nx)), some (.lst (woD m kn)), some (.lst (woD m w)), some (.int (t : Int)), some (.lst fs), some (.int (i : Int)), some .non] = some false by simp [woD, tab_at hi, isNon_encO, c2], Option.bind_some, if_neg Bool.false_ne_true, sIf_def, kt, Option.bind_some, if_neg c]
    cases q : isT (kn i) t with
    | true => simp [woD, tab_at hi, hl]
    | false => simp [hl]
theorem round_turn1 {t : Nat} {w f : Nat → Option Word} {i : Nat} (hi : i < m) (g : Nat → Option Word) (o : Option D) : b1_law_rounds [some (.lst (nxD m nx)), some (.lst (woD m kn)), some (.lst (woD m g)), some (.int (t : Int)), some (.lst (woD m f)), some (.int (i : Int)), o] = some (.nx [some (.lst (nxD m nx)), some (.lst (woD m kn)), some (.lst (woD m fun j => if j = i then (match f i with | some x => some x | none => g i) else g j)), some (.int (t : Int)), some (.lst (woD m f)), some (.int (i : Int)), o]) := by
  unfold b1_law_rounds
  cases q : f i with
  | none =>
    have e : (woD m fun j => if j = i then g i else g j) = woD m g := tab_congr fun j _ => by
      show encO (if j = i then g i else g j) = encO (g j)
      by_cases c : j = i
      · subst c; rw [if_pos rfl]
      · rw [if_neg c]
    rw [e]
    simp [woD, tab_at hi, q]
  | some v =>
    have e : (tab m fun j => encO (g j)).set i (encW v) = woD m fun j => if j = i then some v else g j := by
      rw [tab_set hi]
      refine tab_congr fun j _ => ?_
      show (if j = i then encW v else encO (g j)) = encO (if j = i then some v else g j)
      by_cases c : j = i
      · rw [if_pos c, if_pos c]; rfl
      · rw [if_neg c, if_neg c]
    have p := opPut_lst (ds := woD m g) (i := i) (d := encW v) (by simp [woD, hi])
    rw [e] at p
    simp [woD, tab_at hi, q, isNon_encW] at p ⊢
    rw [p]
theorem round_eq (hx : ∀ j, j < m → ∀ x ∈ nx j, x < m) (hm : m ≤ 20) (w : Nat → Option Word) {t : Nat} (a b c : Option D) : ∃ x y z, b2_law_rounds [some (.lst (nxD m nx)), some (.lst (woD m kn)), some (.lst (woD m w)), some (.int (t : Int)), a, b, c] = some (.nx [some (.lst (nxD m nx)), some (.lst (woD m kn)), some (.lst (woD m fun i => match fr nx kn w t i with | some x => some x | none => w i)), some (.int (t : Int)), x, y, z]) := by
  have hm2 : (-1000000 : Int) ≤ (m : Int) ∧ (m : Int) ≤ 1000000 := by omega
  unfold b2_law_rounds
  rw [sSeq_def, sSet_def, show vLst aNil [some (.lst (nxD m nx)), some (.lst (woD m kn)), some (.lst (woD m w)), some (.int (t : Int)), a, b, c] = some (.lst []) by simp, Option.map_some, Option.bind_some]
  show ∃ x y z, sSeq _ _ [some (.lst (nxD m nx)), some (.lst (woD m kn)), some (.lst (woD m w)), some (.int (t : Int)), some (.lst []), b, c] = some (.nx [some (.lst (nxD m nx)), some (.lst (woD m kn)), some (.lst (woD m fun i => match fr nx kn w t i with | some x => some x | none => w i)), some (.int (t : Int)), x, y, z])
  rw [sSeq_def, sFor_def, show iRngF1 (aCons (vC1 opLen (aCons (vVar 1) aNil)) aNil) [some (.lst (nxD m nx)), some (.lst (woD m kn)), some (.lst (woD m w)), some (.int (t : Int)), some (.lst []), b, c] = some (rngD 0 m) by simp [woD, hm2], Option.bind_some]
  obtain ⟨δ1, e1, o1, o2, rfl⟩ := forD_count (set := hName 5) (body := b0_law_rounds) (n := m) (fun i δ => ∃ o o2, δ = [some (.lst (nxD m nx)), some (.lst (woD m kn)), some (.lst (woD m w)), some (.int (t : Int)), some (.lst (tab i fun j => encO (fr nx kn w t j))), o, o2]) (δ := [some (.lst (nxD m nx)), some (.lst (woD m kn)), some (.lst (woD m w)), some (.int (t : Int)), some (.lst []), b, c]) ⟨b, c, rfl⟩ (by
    rintro i δ hi ⟨o, o2, rfl⟩
    exact ⟨_, _, rfl, round_turn0 hx w hi _ (by rw [tab_len]; omega) o2, _, _, by rw [tab_succ]⟩)
  rw [e1, Option.bind_some]
  show ∃ x y z, sFor _ _ _ _ = some (.nx [some (.lst (nxD m nx)), some (.lst (woD m kn)), some (.lst (woD m fun i => match fr nx kn w t i with | some x => some x | none => w i)), some (.int (t : Int)), x, y, z])
  rw [sFor_def, show iRngF1 (aCons (vC1 opLen (aCons (vVar 1) aNil)) aNil) [some (.lst (nxD m nx)), some (.lst (woD m kn)), some (.lst (woD m w)), some (.int (t : Int)), some (.lst (tab m fun j => encO (fr nx kn w t j))), o1, o2] = some (rngD 0 m) by simp [woD, hm2], Option.bind_some]
  obtain ⟨δ2, e2, o, o3, e3⟩ := forD_count (set := hName 5) (body := b1_law_rounds) (n := m) (fun i δ => ∃ o o2, δ = [some (.lst (nxD m nx)), some (.lst (woD m kn)), some (.lst (woD m fun j => if j < i then (match fr nx kn w t j with | some x => some x | none => w j) else w j)), some (.int (t : Int)), some (.lst (woD m (fr nx kn w t))), o, o2]) (δ := [some (.lst (nxD m nx)), some (.lst (woD m kn)), some (.lst (woD m w)), some (.int (t : Int)), some (.lst (tab m fun j => encO (fr nx kn w t j))), o1, o2]) ⟨o1, o2, by simp⟩ (by
    rintro i δ hi ⟨o, o2, rfl⟩
    refine ⟨_, _, rfl, round_turn1 (t := t) (w := w) (f := fr nx kn w t) hi _ o2, some (.int (i : Int)), o2, ?_⟩
    congr 5
    refine tab_congr fun j _ => ?_
    congr 1
    show (if j = i then _ else if j < i then _ else _) = if j < i + 1 then _ else _
    by_cases c : j = i
    · subst c
      rw [if_pos rfl, if_neg (Nat.lt_irrefl _), if_pos (Nat.lt_succ_self _)]
    · rw [if_neg c]
      by_cases d : j < i
      · rw [if_pos d, if_pos (by omega)]
      · rw [if_neg d, if_neg (by omega)])
  rw [e2, e3]
  refine ⟨some (.lst (woD m (fr nx kn w t))), o, o3, ?_⟩
  congr 5
  congr 2
  refine tab_congr fun j hj => ?_
  show encO (if j < m then _ else _) = _
  rw [if_pos hj]
theorem last_eq (w8 : Nat → Option Word) (a b c d : Option D) : sRet (vLc (iAnyF (vVar 2)) (hName 6) tsYes e3_law_rounds [6]) [some (.lst (nxD m nx)), some (.lst (woD m kn)), some (.lst (woD m w8)), a, b, c, d] = some (.rt (.lst (tab m fun i => encW ((w8 i).getD .even)))) := by
  have lc := lcD_map' (i := 6) (elt := e3_law_rounds) (δ := [some (.lst (nxD m nx)), some (.lst (woD m kn)), some (.lst (woD m w8)), a, b, c, none]) (enc := fun j => encO (w8 j)) (g := fun j => encW ((w8 j).getD .even)) (xs := List.range m) (fun j _ => by
    unfold e3_law_rounds
    cases q : w8 j with
    | none => simp [q]
    | some v => simp [q, isNon_encW])
  simp only [sRet_def, vLc_def, iAnyF_def, vVar_def, List.getElem?_cons_succ, List.getElem?_cons_zero, Option.join_some, Option.bind_some, itemsD_lst, wipeE_cons, wipeE_nil, List.set_cons_succ, List.set_cons_zero]
  rw [show woD m w8 = (List.range m).map (fun j => encO (w8 j)) from rfl] at lc ⊢
  rw [lc]
  rfl
end
end Pr
namespace Pr
open PySem L2 Dl
section
variable {nx : Nat → List Nat} {kn : Nat → Option Word} {m : Nat}
theorem mul_none (hm : m ≤ 20) : v2 opMul (vLst (aCons (vC .non) aNil)) (vC1 opLen (aCons (vVar 1) aNil)) [some (D.lst (nxD m nx)), some (.lst (woD m kn)), none, none, none, none, none] = some (.lst (woD m fun _ => none)) := by
  have e1 : vLst (aCons (vC .non) aNil) [some (D.lst (nxD m nx)), some (.lst (woD m kn)), none, none, none, none, none] = some (.lst [D.non]) := by simp
  have e2 : vC1 opLen (aCons (vVar 1) aNil) [some (D.lst (nxD m nx)), some (.lst (woD m kn)), none, none, none, none, none] = some (.int (m : Int)) := by simp [woD]
  have e3 : woD m (fun _ => none) = List.replicate m D.non := by
    unfold woD tab
    rw [List.map_const', List.length_range]
    rfl
  rw [v2_def, e1, Option.bind_some, e2, Option.bind_some, opMul_rep _ _ (by omega), e3]
theorem all_turns (n : Nat) (hx : ∀ j, j < m → ∀ x ∈ nx j, x < m) (hm : m ≤ 20) : ∃ a b c d, forD (hName 3) b2_law_rounds (rngD 0 n) [some (.lst (nxD m nx)), some (.lst (woD m kn)), some (.lst (woD m fun _ => none)), none, none, none, none] = some (.nx [some (.lst (nxD m nx)), some (.lst (woD m kn)), some (.lst (woD m (W nx kn n))), a, b, c, d]) := by
  have h0 : woD m (fun _ => none) = woD m (W nx kn 0) := rfl
  have hL : ∀ (L L' : List D), L = L' → ∀ (A B T x y z : Option D) (o : Option Out), o = some (Out.nx [A, B, some (.lst L), T, x, y, z]) → o = some (Out.nx [A, B, some (.lst L'), T, x, y, z]) := by
    rintro L _ rfl A B T x y z o h; exact h
  obtain ⟨δ1, e1, a, b, c, d, e2⟩ := forD_count (set := hName 3) (body := b2_law_rounds) (n := n) (fun t δ => ∃ a b c d, δ = [some (.lst (nxD m nx)), some (.lst (woD m kn)), some (.lst (woD m (W nx kn t))), a, b, c, d]) (δ := [some (.lst (nxD m nx)), some (.lst (woD m kn)), some (.lst (woD m fun _ => none)), none, none, none, none]) ⟨none, none, none, none, by rw [h0]⟩ (by
    rintro t δ ht ⟨a, b, c, d, rfl⟩
    obtain ⟨x, y, z, e⟩ := round_eq (kn := kn) hx hm (W nx kn t) (t := t) b c d
    exact ⟨_, _, rfl, hL _ (woD m (W nx kn (t + 1))) (tab_congr fun i _ => by
      dsimp only
      first
        | (rw [W_succ]; done)
        | (rw [W_succ]; cases fr nx kn (W nx kn t) t i <;> rfl)) _ _ _ _ _ _ _ e, some (.int (t : Int)), x, y, z, rfl⟩)
  rw [e2] at e1
  exact ⟨a, b, c, d, e1⟩
theorem turns_range (hm2 : (-1000000 : Int) ≤ (m : Int) + 8 ∧ (m : Int) + 8 ≤ 1000000) : iRngF1 (aCons (v2 opAdd (vC1 opLen (aCons (vVar 1) aNil)) (vC (.int 8))) aNil) [some (.lst (nxD m nx)), some (.lst (woD m kn)), some (.lst (woD m fun _ => none)), none, none, none, none] = some (rngD 0 ((m : Int) + 8).toNat) := by
  have e : aCons (v2 opAdd (vC1 opLen (aCons (vVar 1) aNil)) (vC (.int 8))) aNil [some (.lst (nxD m nx)), some (.lst (woD m kn)), some (.lst (woD m fun _ => none)), none, none, none, none] = some [.int ((m : Int) + 8)] := by simp [woD]
  rw [iRngF1_def, e, Option.bind_some]
  dsimp only
  rw [if_pos hm2]
theorem law_rounds_eq (hx : ∀ j, j < m → ∀ x ∈ nx j, x < m) (hm : m ≤ 20) : den_law_rounds [.lst (nxD m nx), .lst (woD m kn)] = some (.lst (tab m fun i => encW (fin nx kn m i))) := by
  have hm2 : (-1000000 : Int) ≤ (m : Int) + 8 ∧ (m : Int) + 8 ≤ 1000000 := by omega
  have h8 : ((m : Int) + 8).toNat = m + 8 := by omega
  refine denOf_some rfl ?_
  unfold sv_law_rounds
  obtain ⟨a, b, c, d, e1⟩ := all_turns (kn := kn) (m + 8) hx hm
  have tr := turns_range (nx := nx) (kn := kn) hm2
  rw [h8] at tr
  rw [sSeq_def, sSet_def, show (List.map some [D.lst (nxD m nx), .lst (woD m kn)] ++ List.replicate (7 - 2) none : Dl.Env) = [some (.lst (nxD m nx)), some (.lst (woD m kn)), none, none, none, none, none] from rfl, mul_none hm, Option.map_some, Option.bind_some]
  show sSeq _ _ [some (.lst (nxD m nx)), some (.lst (woD m kn)), some (.lst (woD m fun _ => none)), none, none, none, none] = _
  rw [sSeq_def, sFor_def, tr, Option.bind_some, e1, Option.bind_some]
  exact last_eq _ a b c d
end
end Pr
namespace Pr
open PySem L2 Dl
/-! ### the net -/
theorem law_cell_ex (ns : List Int) (k : Int) (h0 : 0 ≤ k) : ∃ a : Int, den_law_cell_at [.scr ns, .int k] = some (.int a) := by
  by_cases c : k < ns.length
  · have e := atI_some (l := ns) h0 c
    have h3 : k.toNat < ns.length := by omega
    rw [List.getElem?_eq_getElem h3] at e
    exact ⟨_, denOf_some rfl (by unfold sv_law_cell_at; simp [c, e]; rfl)⟩
  · exact ⟨0, denOf_some rfl (by unfold sv_law_cell_at; simp [c])⟩
def okK (o : Option Word) : Prop := ∀ v n, o = some v → numOf v = some n → n ≤ 6
theorem law_known_ex (c : Int) (h : 0 ≤ c) : ∃ o, den_law_known [.int c] = some (encO o) ∧ okK o := by
  by_cases c1 : 0 < c % 3
  · exact ⟨none, denOf_some rfl (by unfold sv_law_known; simp [c1]), fun v n e => by cases e⟩
  · obtain ⟨n, hn, n6⟩ : ∃ n : Nat, c / 12 % 7 = (n : Int) ∧ n ≤ 6 := ⟨(c / 12 % 7).toNat, by omega, by omega⟩
    have c2 : c / 3 % 4 = 0 ∨ c / 3 % 4 = 1 ∨ c / 3 % 4 = 2 ∨ c / 3 % 4 = 3 := by omega
    rcases c2 with c2 | c2 | c2 | c2
    · exact ⟨some (.won n), denOf_some rfl (by unfold sv_law_known; simp [c1, c2, hn]), fun v k e e2 => by cases e; have : n = k := Option.some.inj e2; omega⟩
    · exact ⟨some (.lost n), denOf_some rfl (by unfold sv_law_known; simp [c1, c2, hn]), fun v k e e2 => by cases e; have : n = k := Option.some.inj e2; omega⟩
    · exact ⟨some (.lost n), denOf_some rfl (by unfold sv_law_known; simp [c1, c2, hn]), fun v k e e2 => by cases e; have : n = k := Option.some.inj e2; omega⟩
    · exact ⟨some .even, denOf_some rfl (by unfold sv_law_known; simp [c1, c2]), fun v k e e2 => by cases e; cases e2⟩
theorem nats_snoc (xs : List Nat) (x : Nat) : nats xs ++ [.int (x : Int)] = nats (xs ++ [x]) := by simp [nats]
theorem law_nexts_ex (c : Int) (h : 0 ≤ c) (m : Nat) (m0 : 0 < m) (m1 : m ≤ 12) : ∃ xs : List Nat, den_law_nexts [.int c, .int (m : Int)] = some (.lst (nats xs)) ∧ (∀ x ∈ xs, x < m) ∧ xs ≠ [] ∧ xs.length ≤ 4 := by
  obtain ⟨n, hn, n1, n4⟩ : ∃ n : Nat, 1 + c / 84 % 4 = (n : Int) ∧ 1 ≤ n ∧ n ≤ 4 := ⟨(1 + c / 84 % 4).toNat, by omega, by omega, by omega⟩
  have mb : (0 : Int) < (m : Int) ∧ (m : Int) < 1073741824 := by omega
  have hr : (-1000000 : Int) ≤ (n : Int) ∧ (n : Int) ≤ 1000000 := by omega
  obtain ⟨δ', e, xs, d, o, ed, hl, hx, _⟩ := forD_count (set := hName 3) (body := b0_law_nexts) (n := n) (fun i δ => ∃ xs : List Nat, ∃ d : Int, ∃ o : Option D, δ = [some (.int d), some (.int (m : Int)), some (.lst (nats xs)), o] ∧ xs.length = i ∧ (∀ x ∈ xs, x < m) ∧ 0 ≤ d) (δ := [some (.int (c / 84)), some (.int (m : Int)), some (.lst []), none]) ⟨[], c / 84, none, rfl, rfl, fun x hx => by simp at hx, by omega⟩ (by
    rintro i δ hi ⟨xs, d, o, rfl, hl, hx, hd⟩
    have q0 : 0 ≤ d / 4 := Int.ediv_nonneg hd (by decide)
    have q1 : 0 ≤ d / 4 % (m : Int) := Int.emod_nonneg _ (by omega)
    have q2 : d / 4 % (m : Int) < (m : Int) := Int.emod_lt_of_pos _ (by omega)
    have q3 : 0 ≤ d / 4 / (m : Int) := Int.ediv_nonneg q0 (by omega)
    have fit : xs.length < sizeLine := Nat.lt_of_lt_of_le (show xs.length < 100 by omega) (by decide)
    have mo := mulOk_l (i : Int) (i := 3) (by decide)
    have sn := nats_snoc xs (d / 4 % (m : Int)).toNat
    rw [Int.toNat_of_nonneg q1] at sn
    refine ⟨[some (.int d), some (.int (m : Int)), some (.lst (nats xs)), some (.int (i : Int))], [some (.int (d / 4 / (m : Int) + 3 * (i : Int))), some (.int (m : Int)), some (.lst (nats (xs ++ [(d / 4 % (m : Int)).toNat]))), some (.int (i : Int))], rfl, ?_, _, _, _, rfl, by rw [List.length_append, hl]; rfl, fun x hx' => ?_, by omega⟩
    · unfold b0_law_nexts
      simp [mb, m0, fit, mo, sn]
    · rcases List.mem_append.mp hx' with hx' | hx'
      · exact hx x hx'
      · rw [List.mem_singleton.mp hx']; omega)
  refine ⟨xs, denOf_some rfl ?_, hx, fun z => by rw [z] at hl; simp at hl; omega, by omega⟩
  unfold sv_law_nexts
  rw [sSeq_def, sSet_def, show (List.map some [D.int c, .int (m : Int)] ++ List.replicate (4 - 2) none : Dl.Env) = [some (.int c), some (.int (m : Int)), none, none] from rfl, show vLst aNil [some (.int c), some (.int (m : Int)), none, none] = some (.lst []) by simp, Option.map_some, Option.bind_some]
  show sSeq _ _ [some (.int c), some (.int (m : Int)), some (.lst []), none] = _
  rw [sSeq_def, sSet_def, show v2 opDiv (vVar 0) (vC (.int 84)) [some (.int c), some (.int (m : Int)), some (.lst []), none] = some (.int (c / 84)) by simp, Option.map_some, Option.bind_some]
  show sSeq _ _ [some (.int (c / 84)), some (.int (m : Int)), some (.lst []), none] = _
  rw [sSeq_def, sFor_def, show iRngF1 (aCons (v2 opAdd (vC (.int 1)) (v2 opMod (vVar 0) (vC (.int 4)))) aNil) [some (.int (c / 84)), some (.int (m : Int)), some (.lst []), none] = some (rngD 0 n) by simp [hn, hr], Option.bind_some, e, ed]
  rfl
/-- a net of m places -/
structure Net (m : Nat) (nx : Nat → List Nat) (kn : Nat → Option Word) : Prop where
  hnx : ∀ j, j < m → ∀ x ∈ nx j, x < m
  hlen : ∀ j, j < m → (nx j).length ≤ 4
  hkn : ∀ j, j < m → okK (kn j)
  hne : ∀ j, j < m → kn j = none → nx j ≠ []
theorem law_net_ex (ns : List Int) : ∃ m nx kn, 0 < m ∧ m ≤ 12 ∧ Net m nx kn ∧ den_law_net [.scr ns] = some (.tup [.lst (nxD m nx), .lst (woD m kn)]) := by
  obtain ⟨a0, e0⟩ := law_cell_ex ns 0 (by decide)
  obtain ⟨m, hm, m0, m1⟩ : ∃ m : Nat, 1 + a0 % 12 = (m : Int) ∧ 0 < m ∧ m ≤ 12 := ⟨(1 + a0 % 12).toNat, by omega, by omega, by omega⟩
  have hr : (-1000000 : Int) ≤ (m : Int) ∧ (m : Int) ≤ 1000000 := by omega
  obtain ⟨δ', e, nx, kn, a, b, c, d, ed, N⟩ := forD_count (set := hName 4) (body := b0_law_net) (n := m) (fun i δ => ∃ nx kn a b c d, δ = [some (.scr ns), some (.int (m : Int)), some (.lst (nxD i nx)), some (.lst (woD i kn)), a, b, c, d] ∧ ((∀ j, j < i → ∀ x ∈ nx j, x < m) ∧ (∀ j, j < i → (nx j).length ≤ 4) ∧ (∀ j, j < i → okK (kn j)) ∧ (∀ j, j < i → kn j = none → nx j ≠ []))) (δ := [some (.scr ns), some (.int (m : Int)), some (.lst []), some (.lst []), none, none, none, none]) ⟨fun _ => [], fun _ => none, none, none, none, none, rfl, by omega, by omega, by omega, by omega⟩ (by
    rintro i δ hi ⟨nx, kn, a, b, c, d, rfl, n1, n2, n3, n4⟩
    obtain ⟨q, eq⟩ := law_cell_ex ns (2 + (i : Int)) (by omega)
    have p0 : 0 ≤ q * 48271 % 2147483647 := Int.emod_nonneg _ (by decide)
    obtain ⟨o, eo, ok⟩ := law_known_ex (q * 48271 % 2147483647) p0
    obtain ⟨xs, ex, hx, xne, xl⟩ := law_nexts_ex (q * 48271 % 2147483647) p0 m m0 m1
    have mo := mulOk_r q (j := 48271) (by decide)
    have f1 : (nxD i nx).length < sizeLine := by rw [tab_len]; exact Nat.lt_of_lt_of_le (show i < 100 by omega) (by decide)
    have f2 : (woD i kn).length < sizeLine := by rw [tab_len]; exact Nat.lt_of_lt_of_le (show i < 100 by omega) (by decide)
    have ku : woD i kn ++ [encO o] = woD (i + 1) fun j => if j = i then o else kn j := by
      have t1 : woD i kn = tab i fun j => encO (if j = i then o else kn j) := tab_congr fun j hj => by rw [if_neg (by omega)]
      rw [t1, show woD (i + 1) (fun j => if j = i then o else kn j) = tab (i + 1) fun j => encO (if j = i then o else kn j) from rfl, tab_succ, if_pos rfl]
    have xu : ∀ ys, nxD i nx ++ [.lst (nats ys)] = nxD (i + 1) fun j => if j = i then ys else nx j := fun ys => by
      have t1 : nxD i nx = tab i fun j => .lst (nats (if j = i then ys else nx j)) := tab_congr fun j hj => by rw [if_neg (by omega)]
      rw [t1, show nxD (i + 1) (fun j => if j = i then ys else nx j) = tab (i + 1) fun j => .lst (nats (if j = i then ys else nx j)) from rfl, tab_succ, if_pos rfl]
    have run : ∃ ys, b0_law_net [some (.scr ns), some (.int (m : Int)), some (.lst (nxD i nx)), some (.lst (woD i kn)), some (.int (i : Int)), b, c, d] = some (.nx [some (.scr ns), some (.int (m : Int)), some (.lst (nxD i nx ++ [.lst (nats ys)])), some (.lst (woD i kn ++ [encO o])), some (.int (i : Int)), some (.int (q * 48271 % 2147483647)), some (encO o), some (.lst (nats ys))]) ∧ (ys = xs ∨ (ys = [] ∧ o ≠ none)) := by
      by_cases c1 : o.isNone = false ∧ q * 48271 % 2147483647 % 2 = 0
      · refine ⟨[], ?_, .inr ⟨rfl, fun z => by rw [z] at c1; exact absurd c1.1 (by decide)⟩⟩
        unfold b0_law_net
        simp only [tab_len] at f1 f2
        simp [eq, mo, eo, ex, f1, f2, isNon_encO, c1.1, c1.2, nats]
      · refine ⟨xs, ?_, .inl rfl⟩
        unfold b0_law_net
        simp only [tab_len] at f1 f2
        cases q1 : o.isNone with
        | true => simp [eq, mo, eo, ex, f1, f2, isNon_encO, q1]
        | false =>
          have q2 : ¬ q * 48271 % 2147483647 % 2 = 0 := fun z => c1 ⟨q1, z⟩
          simp [eq, mo, eo, ex, f1, f2, isNon_encO, q1, q2]
    obtain ⟨ys, er, hy⟩ := run
    refine ⟨_, _, rfl, er, fun j => if j = i then ys else nx j, fun j => if j = i then o else kn j, some (.int (i : Int)), some (.int (q * 48271 % 2147483647)), some (encO o), some (.lst (nats ys)), by rw [ku, xu], ?_, ?_, ?_, ?_⟩
    · intro j hj x hx'
      dsimp only at hx'
      by_cases cj : j = i
      · rw [if_pos cj] at hx'
        rcases hy with rfl | ⟨rfl, _⟩
        · exact hx x hx'
        · simp at hx'
      · rw [if_neg cj] at hx'; exact n1 j (by omega) x hx'
    · intro j hj
      dsimp only
      by_cases cj : j = i
      · rw [if_pos cj]
        rcases hy with rfl | ⟨rfl, _⟩
        · exact xl
        · simp
      · rw [if_neg cj]; exact n2 j (by omega)
    · intro j hj
      dsimp only
      by_cases cj : j = i
      · rw [if_pos cj]; exact ok
      · rw [if_neg cj]; exact n3 j (by omega)
    · intro j hj hn
      dsimp only at hn ⊢
      by_cases cj : j = i
      · rw [if_pos cj] at hn ⊢
        rcases hy with rfl | ⟨rfl, h2⟩
        · exact xne
        · exact absurd hn h2
      · rw [if_neg cj] at hn ⊢; exact n4 j (by omega) hn)
  refine ⟨m, nx, kn, m0, m1, ⟨N.1, N.2.1, N.2.2.1, N.2.2.2⟩, denOf_some rfl ?_⟩
  unfold sv_law_net
  rw [ed] at e
  rw [sSeq_def, sSet_def, show (List.map some [D.scr ns] ++ List.replicate (8 - 1) none : Dl.Env) = [some (.scr ns), none, none, none, none, none, none, none] from rfl, show v2 opAdd (vC (.int 1)) (v2 opMod (vC1 den_law_cell_at (aCons (vVar 0) (aCons (vC (.int 0)) aNil))) (vC (.int 12))) [some (.scr ns), none, none, none, none, none, none, none] = some (.int (m : Int)) by simp [e0, hm], Option.map_some, Option.bind_some]
  simp [hr, e]

end Pr
namespace Pr
open PySem L2 Dl
/-! ### best, due -/
section
variable {nx : Nat → List Nat} {kn : Nat → Option Word} {m : Nat}
abbrev fiD (m : Nat) (f : Nat → Word) : List D := tab m fun j => encW (f j)
def pos1 (v : Word) : Prop := v ≠ .won 0 ∧ v ≠ .lost 0
theorem wanted_eq {v : Word} (h : pos1 v) : den_wanted [encW v] = some (encW (want v)) := by
  refine denOf_some rfl ?_
  unfold sv_wanted
  cases v with
  | won n =>
    have hn : n ≠ 0 := fun z => h.1 (by rw [z])
    have e : (n : Int) - 1 = ((n - 1 : Nat) : Int) := by omega
    simp [want, e]
  | lost n =>
    have hn : n ≠ 0 := fun z => h.2 (by rw [z])
    have e : (n : Int) - 1 = ((n - 1 : Nat) : Int) := by omega
    simp [want, e]
  | even => simp [want]
def bests (nx : Nat → List Nat) (f : Nat → Word) (i : Nat) : List Nat := (nx i).filter fun x => decide (f x = want (f i))
def dues (m : Nat) (nx : Nat → List Nat) (f : Nat → Word) (i : Nat) : List Nat := (List.range m).filter fun x => decide (x ∈ nx i) && decide (f x = want (f i))
theorem best_known {i : Nat} (hi : i < m) (f : Nat → Word) (hk : kn i ≠ none) : den_best [.lst (nxD m nx), .lst (woD m kn), .lst (fiD m f), .int (i : Int)] = some (.lst []) := by
  have c2 : (kn i).isNone = false := by
    cases q : kn i with
    | none => exact absurd q hk
    | some v => rfl
  refine denOf_some rfl ?_
  unfold sv_best
  simp [woD, tab_at hi, isNon_encO, c2]
theorem best_eq {i : Nat} (hi : i < m) (f : Nat → Word) (hk : kn i = none) (hp : pos1 (f i)) (hx : ∀ x ∈ nx i, x < m) (hl : (nx i).length < 64) : den_best [.lst (nxD m nx), .lst (woD m kn), .lst (fiD m f), .int (i : Int)] = some (.lst ((setSort ((bests nx f i).map fun (x : Nat) => (x : Int))).map D.int)) := by
  refine denOf_some rfl ?_
  have w := wanted_eq hp
  have lc := lcD_map (i := 5) (p := t0_best) (elt := vVar 5) (δ := [some (.lst (nxD m nx)), some (.lst (woD m kn)), some (.lst (fiD m f)), some (.int (i : Int)), some (encW (want (f i))), none]) (enc := fun (x : Nat) => D.int (x : Int)) (P := fun x => decide (f x = want (f i))) (g := fun (x : Nat) => D.int (x : Int)) (xs := nx i) (fun x hxx => by
    unfold t0_best
    simp [fiD, tab_at (hx x hxx), opEq_encW]) (fun x _ _ => rfl)
  have hlen : (bests nx f i).length < 64 := Nat.lt_of_le_of_lt (List.length_filter_le _ _) hl
  have fold : ((nx i).map fun (x : Nat) => D.int (x : Int)) = nats (nx i) := rfl
  rw [fold] at lc
  unfold sv_best
  rw [sSeq_def, sIf_def, show vTst (v2 opNot (v2 opIx (vVar 1) (vVar 3)) (vC .non)) (List.map some [D.lst (nxD m nx), .lst (woD m kn), .lst (fiD m f), .int (i : Int)] ++ List.replicate (6 - 4) none) = some false by simp [woD, tab_at hi, hk], Option.bind_some, if_neg Bool.false_ne_true, sNext_def, Option.bind_some]
  show sSeq _ _ [some (.lst (nxD m nx)), some (.lst (woD m kn)), some (.lst (fiD m f)), some (.int (i : Int)), none, none] = _
  rw [sSeq_def, sSet_def, show vC1 den_wanted (aCons (v2 opIx (vVar 2) (vVar 3)) aNil) [some (.lst (nxD m nx)), some (.lst (woD m kn)), some (.lst (fiD m f)), some (.int (i : Int)), none, none] = some (encW (want (f i))) by simp [fiD, tab_at hi, w], Option.map_some, Option.bind_some]
  show sRet _ [some (.lst (nxD m nx)), some (.lst (woD m kn)), some (.lst (fiD m f)), some (.int (i : Int)), some (encW (want (f i))), none] = _
  have e : vLc (iAnyF (v2 opIx (vVar 0) (vVar 3))) (hName 5) t0_best (vVar 5) [5] [some (.lst (nxD m nx)), some (.lst (woD m kn)), some (.lst (fiD m f)), some (.int (i : Int)), some (encW (want (f i))), none] = some (.lst (nats (bests nx f i))) := by
    rw [vLc_def, show iAnyF (v2 opIx (vVar 0) (vVar 3)) [some (.lst (nxD m nx)), some (.lst (woD m kn)), some (.lst (fiD m f)), some (.int (i : Int)), some (encW (want (f i))), none] = some (nats (nx i)) by simp [nxD, tab_at hi], Option.bind_some]
    show (lcD _ _ _ [some (.lst (nxD m nx)), some (.lst (woD m kn)), some (.lst (fiD m f)), some (.int (i : Int)), some (encW (want (f i))), none] _).map D.lst = _
    rw [lc]
    rfl
  rw [sRet_def, vSortSet_def, e, Option.bind_some]
  dsimp only
  rw [nats_ints, intsOf_map, Option.bind_some, if_pos (by rw [List.length_map]; exact hlen)]
  rfl
theorem d1 : ¬ ("won" : Str) = ("lost" : Str) := by decide +kernel
theorem d2 : ¬ ("won" : Str) = ("even" : Str) := by decide +kernel
theorem d3 : ¬ ("lost" : Str) = ("even" : Str) := by decide +kernel
@[simp] theorem dict3a (a b c : D) : lookK (mergeD [] [(Sum.inr ("won" : Str), a), (Sum.inr "lost", b), (Sum.inr "even", c)]) (Sum.inr "won") = some a := by simp [mergeD, putD, lookK, d1, d2, d3]
@[simp] theorem dict3b (a b c : D) : lookK (mergeD [] [(Sum.inr ("won" : Str), a), (Sum.inr "lost", b), (Sum.inr "even", c)]) (Sum.inr "lost") = some b := by simp [mergeD, putD, lookK, d1, d2, d3]
@[simp] theorem dict3c (a b c : D) : lookK (mergeD [] [(Sum.inr ("won" : Str), a), (Sum.inr "lost", b), (Sum.inr "even", c)]) (Sum.inr "even") = some c := by simp [mergeD, putD, lookK, d1, d2, d3]
theorem opIx_dic (kvs : List (Key × D)) (s : Str) : opIx (.dicK kvs) (.str s) = lookK kvs (Sum.inr s) := rfl
theorem law_numbers_eq (xs : List Nat) : den_law_numbers [.lst (nats xs), .lst (nats xs)] = some (.bl true) := by
  refine denOf_some rfl ?_
  have l0 := fun b o => lcD_map (i := 2) (p := t0_law_numbers) (elt := vVar 2) (δ := [some (.lst (nats xs)), some b, o]) (enc := fun (x : Nat) => D.int (x : Int)) (P := fun _ => false) (g := fun (x : Nat) => D.int (x : Int)) (xs := xs) (fun x _ => by unfold t0_law_numbers; simp) (fun x _ _ => rfl)
  have l1 := fun b o => lcD_map (i := 2) (p := t1_law_numbers) (elt := vVar 2) (δ := [some (.lst (nats xs)), some b, o]) (enc := fun (x : Nat) => D.int (x : Int)) (P := fun _ => false) (g := fun (x : Nat) => D.int (x : Int)) (xs := xs) (fun x _ => by unfold t1_law_numbers; simp) (fun x _ _ => rfl)
  have fold : (xs.map fun (x : Nat) => D.int (x : Int)) = nats xs := rfl
  rw [fold] at l0 l1
  have fe : (xs.filter fun _ => false) = [] := by simp
  rw [fe] at l0 l1
  have eqs : opEq (.lst (nats xs)) (.lst (nats xs)) = some (.bl true) := opEq_self (n := 1) (fit_lst (fit_nats xs 0)) (by decide)
  unfold sv_law_numbers
  simp [l0, l1, eqs]
end
end Pr
namespace Pr
open PySem L2 Dl
/-! ### the way by best play -/
section
variable {m : Nat} {nx : Nat → List Nat} {kn : Nat → Option Word} {f : Nat → Word}
structure Fine (m : Nat) (nx : Nat → List Nat) (kn : Nat → Option Word) (f : Nat → Word) : Prop where
  N : Net m nx kn
  m0 : 0 < m
  m1 : m ≤ 12
  ex : ∀ i, i < m → kn i = none → ∃ x ∈ nx i, f x = want (f i)
  pos : ∀ i, i < m → kn i = none → pos1 (f i)
theorem fine_fin (N : Net m nx kn) (m0 : 0 < m) (m1 : m ≤ 12) : Fine m nx kn (fin nx kn m) := ⟨N, m0, m1, fun i hi hk => best_ex hi N.hnx (fun j v n hj h1 h2 => N.hkn j hj v n h1 h2) hk (N.hne i hi hk), fun i hi hk => by
  unfold fin
  cases q : W nx kn (m + 8) i with
  | none => exact ⟨(fun h => by have h : Word.even = .won 0 := h; cases h), (fun h => by have h : Word.even = .lost 0 := h; cases h)⟩
  | some v =>
    rcases W_from q hk with ⟨n, rfl, _⟩ | ⟨n, rfl, _⟩
    · exact ⟨(fun h => by have h : Word.won (n + 1) = .won 0 := h; cases h), (fun h => by have h : Word.won (n + 1) = .lost 0 := h; cases h)⟩
    · exact ⟨(fun h => by have h : Word.lost (n + 1) = .won 0 := h; cases h), (fun h => by have h : Word.lost (n + 1) = .lost 0 := h; cases h)⟩⟩
/-- the least best follower -/
def bL (nx : Nat → List Nat) (f : Nat → Word) (i : Nat) : List Int := (bests nx f i).map fun (x : Nat) => (x : Int)
def gN (nx : Nat → List Nat) (f : Nat → Word) (i : Nat) : Nat := (minL (bL nx f i)).toNat
theorem bL_ne (F : Fine m nx kn f) {i : Nat} (hi : i < m) (hk : kn i = none) : bL nx f i ≠ [] := by
  obtain ⟨x, hx, e⟩ := F.ex i hi hk
  intro h
  have : (x : Int) ∈ bL nx f i := List.mem_map.mpr ⟨x, List.mem_filter.mpr ⟨hx, by simpa using e⟩, rfl⟩
  rw [h] at this; simp at this
theorem gN_ok (F : Fine m nx kn f) {i : Nat} (hi : i < m) (hk : kn i = none) : minL (bL nx f i) = (gN nx f i : Int) ∧ gN nx f i < m ∧ f (gN nx f i) = want (f i) := by
  obtain ⟨h1, _⟩ := minL_spec (bL_ne F hi hk)
  obtain ⟨x, hx, e⟩ := List.mem_map.mp h1
  obtain ⟨hx1, hx2⟩ := List.mem_filter.mp hx
  have e2 : gN nx f i = x := by unfold gN; rw [← e]; simp
  exact ⟨by rw [e2, ← e], by rw [e2]; exact F.N.hnx i hi x hx1, by rw [e2]; simpa using hx2⟩
theorem setSort_head {ns : List Int} (h : ns ≠ []) : ∃ r, setSort ns = minL ns :: r := by
  obtain ⟨h1, h2⟩ := minL_spec h
  have hm := setSort_mem.mpr h1
  have rs := setSort_ris ns
  cases q : setSort ns with
  | nil => rw [q] at hm; simp at hm
  | cons k r =>
    rw [q] at hm rs
    have hk : k ∈ ns := setSort_mem.mp (by rw [q]; exact List.mem_cons_self)
    have a := h2 k hk
    rcases List.mem_cons.mp hm with e | hm
    · exact ⟨r, by rw [e]⟩
    · have := (List.pairwise_cons.mp rs).1 _ hm
      omega
/-- a step: what was ahead, and where we are -/
def stp (nx : Nat → List Nat) (kn : Nat → Option Word) (f : Nat → Word) (p : List Nat × Nat) : List Nat × Nat := if kn p.2 = none then (p.1 ++ [p.2], gN nx f p.2) else p
def way (nx : Nat → List Nat) (kn : Nat → Option Word) (f : Nat → Word) (a : Nat) : Nat → List Nat × Nat
  | 0 => ([], a)
  | k + 1 => stp nx kn f (way nx kn f a k)
def wayL (p : List Nat × Nat) : List Nat := p.1 ++ [p.2]
theorem way_lt (F : Fine m nx kn f) {a : Nat} (ha : a < m) : ∀ k, (way nx kn f a k).2 < m ∧ (way nx kn f a k).1.length ≤ k
  | 0 => ⟨ha, Nat.le_refl _⟩
  | k + 1 => by
    obtain ⟨h1, h2⟩ := way_lt F ha k
    show (stp nx kn f (way nx kn f a k)).2 < m ∧ (stp nx kn f (way nx kn f a k)).1.length ≤ k + 1
    unfold stp
    by_cases c : kn (way nx kn f a k).2 = none
    · rw [if_pos c]; exact ⟨(gN_ok F h1 c).2.1, by rw [List.length_append, List.length_singleton]; omega⟩
    · rw [if_neg c]; exact ⟨h1, by omega⟩
theorem way_stay {a k : Nat} (h : kn (way nx kn f a k).2 ≠ none) : ∀ j, way nx kn f a (k + j) = way nx kn f a k
  | 0 => rfl
  | j + 1 => by
    show stp nx kn f (way nx kn f a (k + j)) = _
    rw [way_stay h j]; unfold stp; rw [if_neg h]
/-- the number falls by one with each step -/
theorem way_num (F : Fine m nx kn f) {a n : Nat} (ha : a < m) (hn : numOf (f a) = some n) : ∀ k, ∃ b, numOf (f (way nx kn f a k).2) = some b ∧ n = b + (way nx kn f a k).1.length
  | 0 => ⟨n, hn, rfl⟩
  | k + 1 => by
    obtain ⟨b, h1, h2⟩ := way_num F ha hn k
    obtain ⟨hl, _⟩ := way_lt F ha k
    show ∃ b, numOf (f (stp nx kn f (way nx kn f a k)).2) = some b ∧ n = b + (stp nx kn f (way nx kn f a k)).1.length
    unfold stp
    by_cases c : kn (way nx kn f a k).2 = none
    · rw [if_pos c]
      obtain ⟨_, _, e⟩ := gN_ok F hl c
      have p := F.pos _ hl c
      dsimp only
      rw [e, List.length_append, List.length_singleton]
      cases q : f (way nx kn f a k).2 with
      | won u =>
        rw [q] at h1 p
        have e1 : u = b := Option.some.inj h1
        have : u ≠ 0 := fun z => p.1 (by rw [z])
        exact ⟨u - 1, rfl, by omega⟩
      | lost u =>
        rw [q] at h1 p
        have e1 : u = b := Option.some.inj h1
        have : u ≠ 0 := fun z => p.2 (by rw [z])
        exact ⟨u - 1, rfl, by omega⟩
      | even => rw [q] at h1; cases h1
    · rw [if_neg c]; exact ⟨b, h1, h2⟩
end
end Pr
namespace Pr
open PySem L2 Dl
section
variable {m : Nat} {nx : Nat → List Nat} {kn : Nat → Option Word} {f : Nat → Word}
theorem atI_last {α : Type} (xs : List α) (d : α) : atI (xs ++ [d]) (-1) = some d := by
  unfold atI ixN
  rw [if_neg (by decide), if_pos (by rw [List.length_append, List.length_singleton]; omega), Option.bind_some]
  have e : ((-1 : Int) + ((xs ++ [d]).length : Int)).toNat = xs.length := by rw [List.length_append, List.length_singleton]; omega
  rw [e]; simp
theorem last_wayL (p : List Nat × Nat) : atI (nats (wayL p)) (-1) = some (.int (p.2 : Int)) := by
  unfold wayL; rw [← nats_snoc]; exact atI_last _ _
theorem wayL_len (p : List Nat × Nat) : (nats (wayL p)).length = p.1.length + 1 := by unfold wayL nats; simp
theorem first_pre (F : Fine m nx kn f) {i : Nat} (hi : i < m) (hk : kn i = none) (rest : Sv) : ∃ A B : D, sSeq (sAsg (v2 opIx (vVar 1) (vVar 2)) (hTup 2 (hCons (hName 3) (hCons (hName 4) hNil)))) (sSeq (sSet 5 (v2 opIx (vDict (pCons (vC (.str "won")) (vTup (aCons (vC (.str "lost")) (aCons (v2 opSub (vVar 4) (vC (.int 1))) aNil))) (pCons (vC (.str "lost")) (vTup (aCons (vC (.str "won")) (aCons (v2 opSub (vVar 4) (vC (.int 1))) aNil))) (pCons (vC (.str "even")) (vTup (aCons (vC (.str "even")) (aCons (vC (.int 0)) aNil))) pNil)))) (vVar 3))) rest)
    [some (.lst (nxD m nx)), some (.lst (fiD m f)), some (.int (i : Int)), none, none, none, none] = rest [some (.lst (nxD m nx)), some (.lst (fiD m f)), some (.int (i : Int)), some A, some B, some (encW (want (f i))), none] := by
  have p := F.pos i hi hk
  cases q : f i with
  | won n =>
    rw [q] at p
    have hn : n ≠ 0 := fun z => p.1 (by rw [z])
    have e : (n : Int) - 1 = ((n - 1 : Nat) : Int) := by omega
    exact ⟨.str "won", .int n, by simp [fiD, tab_at hi, q, want, e, encW, opIx_dic]⟩
  | lost n =>
    rw [q] at p
    have hn : n ≠ 0 := fun z => p.2 (by rw [z])
    have e : (n : Int) - 1 = ((n - 1 : Nat) : Int) := by omega
    exact ⟨.str "lost", .int n, by simp [fiD, tab_at hi, q, want, e, encW, opIx_dic]⟩
  | even => exact ⟨.str "even", .int 0, by simp [fiD, tab_at hi, q, want, encW, opIx_dic]⟩
theorem law_first_eq (F : Fine m nx kn f) {i : Nat} (hi : i < m) (hk : kn i = none) : den_law_first [.lst (nxD m nx), .lst (fiD m f), .int (i : Int)] = some (.int (gN nx f i : Int)) := by
  refine denOf_some rfl ?_
  unfold sv_law_first
  obtain ⟨A, B, e0⟩ := first_pre F hi hk (sRet (vC1 opMin (aCons (vLc (iAnyF (v2 opIx (vVar 0) (vVar 2))) (hName 6) t0_law_first (vVar 6) [6]) aNil)))
  show sSeq _ _ [some (.lst (nxD m nx)), some (.lst (fiD m f)), some (.int (i : Int)), none, none, none, none] = _
  rw [e0]
  have hx := F.N.hnx i hi
  have lc := lcD_map (i := 6) (p := t0_law_first) (elt := vVar 6) (δ := [some (.lst (nxD m nx)), some (.lst (fiD m f)), some (.int (i : Int)), some A, some B, some (encW (want (f i))), none]) (enc := fun (x : Nat) => D.int (x : Int)) (P := fun x => decide (f x = want (f i))) (g := fun (x : Nat) => D.int (x : Int)) (xs := nx i) (fun x hxx => by
    unfold t0_law_first
    simp [fiD, tab_at (hx x hxx), opEq_encW]) (fun x _ _ => rfl)
  have fold : ((nx i).map fun (x : Nat) => D.int (x : Int)) = nats (nx i) := rfl
  rw [fold] at lc
  have e : vLc (iAnyF (v2 opIx (vVar 0) (vVar 2))) (hName 6) t0_law_first (vVar 6) [6] [some (.lst (nxD m nx)), some (.lst (fiD m f)), some (.int (i : Int)), some A, some B, some (encW (want (f i))), none] = some (.lst (nats (bests nx f i))) := by
    rw [vLc_def, show iAnyF (v2 opIx (vVar 0) (vVar 2)) [some (.lst (nxD m nx)), some (.lst (fiD m f)), some (.int (i : Int)), some A, some B, some (encW (want (f i))), none] = some (nats (nx i)) by simp [nxD, tab_at hi], Option.bind_some]
    show (lcD _ _ _ [some (.lst (nxD m nx)), some (.lst (fiD m f)), some (.int (i : Int)), some A, some B, some (encW (want (f i))), none] _).map D.lst = _
    rw [lc]
    rfl
  rw [sRet_def, vC1_def, aCons_def, e]
  show (opMin [.lst (nats (bests nx f i))]).map _ = _
  rw [nats_ints, show ((bests nx f i).map fun (x : Nat) => (x : Int)) = bL nx f i from rfl, opMin_ints (bL_ne F hi hk), (gN_ok F hi hk).1]; rfl
theorem snoc_stp {p : List Nat × Nat} (c : kn p.2 = none) : nats (wayL p) ++ [.int (gN nx f p.2 : Int)] = nats (wayL (stp nx kn f p)) := by
  unfold stp; rw [if_pos c]; unfold wayL; rw [nats_snoc]
theorem going_turn (F : Fine m nx kn f) {p : List Nat × Nat} (hp : p.2 < m) (hl : p.1.length < 100) (a n : Int) (t : Option D) : b0_law_going [some (.lst (nxD m nx)), some (.lst (woD m kn)), some (.lst (fiD m f)), some (.int a), some (.int n), some (.lst (nats (wayL p))), t] =
    some (.nx [some (.lst (nxD m nx)), some (.lst (woD m kn)), some (.lst (fiD m f)), some (.int a), some (.int n), some (.lst (nats (wayL (stp nx kn f p)))), t]) := by
  have fit : (nats (wayL p)).length < sizeLine := Nat.lt_of_lt_of_le (show (nats (wayL p)).length < 200 by rw [wayL_len]; omega) (by decide)
  have lw := last_wayL p
  unfold b0_law_going
  by_cases c : kn p.2 = none
  · have e := law_first_eq F hp c
    have sn := snoc_stp (nx := nx) (f := f) c
    have fit' : (wayL p).length < sizeLine := by have := fit; simpa [nats] using this
    simp [lw, woD, tab_at hp, c, e, fit, fit', ← sn, encO]
  · have c2 : (kn p.2).isNone = false := by
      cases q : kn p.2 with
      | none => exact absurd q c
      | some v => rfl
    have : stp nx kn f p = p := by unfold stp; rw [if_neg c]
    simp [lw, woD, tab_at hp, isNon_encO, c2, this]
theorem going_eq (F : Fine m nx kn f) {a : Nat} (ha : a < m) {n : Nat} (hn : n ≤ 30) : den_law_going [.lst (nxD m nx), .lst (woD m kn), .lst (fiD m f), .int (a : Int), .int (n : Int)] = some (.lst (nats (wayL (way nx kn f a n)))) := by
  have hr : (-1000000 : Int) ≤ (n : Int) ∧ (n : Int) ≤ 1000000 := by omega
  obtain ⟨δ', e, t, ed⟩ := forD_count (set := hName 6) (body := b0_law_going) (n := n) (fun i δ => ∃ t, δ = [some (.lst (nxD m nx)), some (.lst (woD m kn)), some (.lst (fiD m f)), some (.int (a : Int)), some (.int (n : Int)), some (.lst (nats (wayL (way nx kn f a i)))), t]) (δ := [some (.lst (nxD m nx)), some (.lst (woD m kn)), some (.lst (fiD m f)), some (.int (a : Int)), some (.int (n : Int)), some (.lst [.int (a : Int)]), none]) ⟨none, rfl⟩ (by
    rintro i δ hi ⟨t, rfl⟩
    obtain ⟨h1, h2⟩ := way_lt F ha i
    exact ⟨_, _, rfl, going_turn F h1 (by omega) _ _ _, some (.int (i : Int)), rfl⟩)
  subst ed
  refine denOf_some rfl ?_
  unfold sv_law_going
  rw [sSeq_def, sSet_def, show vLst (aCons (vVar 3) aNil) (List.map some [D.lst (nxD m nx), .lst (woD m kn), .lst (fiD m f), .int (a : Int), .int (n : Int)] ++ List.replicate (7 - 5) none) = some (.lst [.int (a : Int)]) by simp, Option.map_some, Option.bind_some]
  show sSeq _ _ [some (.lst (nxD m nx)), some (.lst (woD m kn)), some (.lst (fiD m f)), some (.int (a : Int)), some (.int (n : Int)), some (.lst [.int (a : Int)]), none] = _
  rw [sSeq_def, sFor_def, show iRngF1 (aCons (vVar 4) aNil) [some (.lst (nxD m nx)), some (.lst (woD m kn)), some (.lst (fiD m f)), some (.int (a : Int)), some (.int (n : Int)), some (.lst [.int (a : Int)]), none] = some (rngD 0 n) by simp [hr], Option.bind_some, e]
  rfl
/-! line -/
theorem line_cond (F : Fine m nx kn f) {p : List Nat × Nat} (hp : p.2 < m) (a n : Int) : w0_line [some (.lst (nxD m nx)), some (.lst (woD m kn)), some (.lst (fiD m f)), some (.int a), some (.int n), some (.lst (nats (wayL p)))] = some ((kn p.2).isNone && decide ((p.1.length : Int) + 1 ≤ n)) := by
  have lw := last_wayL p
  have ll : ((nats (wayL p)).length : Int) = (p.1.length : Int) + 1 := by rw [wayL_len]; rfl
  unfold w0_line
  cases c : (kn p.2).isNone with
  | true =>
    have l2 : ((wayL p).length : Int) = (p.1.length : Int) + 1 := by unfold wayL; simp
    simp [lw, woD, tab_at hp, isNon_encO, c, ll, l2]
  | false => simp [lw, woD, tab_at hp, isNon_encO, c]
theorem line_turn (F : Fine m nx kn f) {p : List Nat × Nat} (hp : p.2 < m) (hl : p.1.length < 100) (c : kn p.2 = none) (a n : Int) : b1_line [some (.lst (nxD m nx)), some (.lst (woD m kn)), some (.lst (fiD m f)), some (.int a), some (.int n), some (.lst (nats (wayL p)))] =
    some (.nx [some (.lst (nxD m nx)), some (.lst (woD m kn)), some (.lst (fiD m f)), some (.int a), some (.int n), some (.lst (nats (wayL (stp nx kn f p))))]) := by
  have fit : (nats (wayL p)).length < sizeLine := Nat.lt_of_lt_of_le (show (nats (wayL p)).length < 200 by rw [wayL_len]; omega) (by decide)
  have lw := last_wayL p
  have be := best_eq hp f c (F.pos _ hp c) (F.N.hnx _ hp) (by have := F.N.hlen _ hp; omega)
  obtain ⟨r, er⟩ := setSort_head (bL_ne F hp c)
  have fold : ((bests nx f p.2).map fun (x : Nat) => (x : Int)) = bL nx f p.2 := rfl
  rw [fold, er, List.map_cons, (gN_ok F hp c).1] at be
  have sn := snoc_stp (nx := nx) (f := f) c
  have i0 : atI (D.int (gN nx f p.2 : Int) :: r.map D.int) 0 = some (.int (gN nx f p.2 : Int)) := by
    unfold atI ixN; rw [if_pos (by decide), if_pos (by rw [List.length_cons]; omega)]; rfl
  have fit' : (wayL p).length < sizeLine := by have := fit; simpa [nats] using this
  unfold b1_line
  simp [lw, be, i0, fit, fit', ← sn]
theorem line_while (F : Fine m nx kn f) {a : Nat} (ha : a < m) {n : Nat} (hn : n ≤ 30) : ∀ d k, k + d = n → (∀ j, j < k → kn (way nx kn f a j).2 = none) → (way nx kn f a k).1.length = k →
    whileD w0_line b1_line (d + 1) [some (.lst (nxD m nx)), some (.lst (woD m kn)), some (.lst (fiD m f)), some (.int (a : Int)), some (.int (n : Int)), some (.lst (nats (wayL (way nx kn f a k))))] =
      some (.nx [some (.lst (nxD m nx)), some (.lst (woD m kn)), some (.lst (fiD m f)), some (.int (a : Int)), some (.int (n : Int)), some (.lst (nats (wayL (way nx kn f a n))))])
  | d, k, hk, hj, hlk => by
    obtain ⟨h1, _⟩ := way_lt F ha k
    unfold whileD
    rw [line_cond F h1, Option.bind_some]
    by_cases c : kn (way nx kn f a k).2 = none
    · cases d with
      | zero =>
        have e : k = n := by omega
        subst e
        rw [if_neg (by rw [c, hlk]; simp; omega)]
      | succ d =>
        rw [if_pos (by rw [c, hlk]; simp; omega), line_turn F h1 (by omega) c, Option.bind_some]
        refine line_while F ha hn d (k + 1) (by omega) (fun j hj' => ?_) ?_
        · by_cases z : j = k
          · rw [z]; exact c
          · exact hj j (by omega)
        · show (stp nx kn f (way nx kn f a k)).1.length = k + 1
          unfold stp; rw [if_pos c, List.length_append, List.length_singleton, hlk]
    · have c2 : (kn (way nx kn f a k).2).isNone = false := by
        cases q : kn (way nx kn f a k).2 with
        | none => exact absurd q c
        | some v => rfl
      rw [if_neg (by rw [c2]; simp)]
      have := way_stay (nx := nx) (f := f) c d
      rw [hk] at this
      rw [this]
theorem line_eq (F : Fine m nx kn f) {a : Nat} (ha : a < m) {n : Nat} (hn : n ≤ 30) : den_line [.lst (nxD m nx), .lst (woD m kn), .lst (fiD m f), .int (a : Int), .int (n : Int)] = some (.lst (nats (wayL (way nx kn f a n)))) := by
  refine denOf_some rfl ?_
  have w := sWhile_of (line_while F ha hn n 0 (by omega) (fun j hj => by omega) rfl) (Nat.le_trans (show n + 1 ≤ 31 by omega) (by decide))
  unfold sv_line
  rw [sSeq_def, sSet_def, show vLst (aCons (vVar 3) aNil) (List.map some [D.lst (nxD m nx), .lst (woD m kn), .lst (fiD m f), .int (a : Int), .int (n : Int)] ++ List.replicate (6 - 5) none) = some (.lst [.int (a : Int)]) by simp, Option.map_some, Option.bind_some]
  show sSeq _ _ [some (.lst (nxD m nx)), some (.lst (woD m kn)), some (.lst (fiD m f)), some (.int (a : Int)), some (.int (n : Int)), some (.lst [.int (a : Int)])] = _
  rw [sSeq_def, show ([some (.lst (nxD m nx)), some (.lst (woD m kn)), some (.lst (fiD m f)), some (.int (a : Int)), some (.int (n : Int)), some (.lst [.int (a : Int)])] : Dl.Env) = [some (.lst (nxD m nx)), some (.lst (woD m kn)), some (.lst (fiD m f)), some (.int (a : Int)), some (.int (n : Int)), some (.lst (nats (wayL (way nx kn f a 0))))] from rfl, w]
  rfl
end
/-! ### the law -/
theorem st_nx {s rest : Sv} {δ δ1 : Dl.Env} {r : Option Out} (h : s δ = some (.nx δ1)) (k : rest δ1 = r) : sSeq s rest δ = r := by rw [sSeq_def, h]; exact k
theorem set_nx {i : Nat} {f : Ev} {δ : Dl.Env} {d : D} (h : f δ = some d) : sSet i f δ = some (.nx (δ.set i (some d))) := by rw [sSet_def, h]; rfl
theorem cut_last (xs : List D) (d : D) : cutD (xs ++ [d]) none (some (-1)) = xs := by
  have e1 : HT.sIx (xs ++ [d]).length 0 none = 0 := rfl
  have e2 : HT.sIx (xs ++ [d]).length (xs ++ [d]).length (some (-1)) = xs.length := by
    show (if (-1 : Int) < 0 then ((-1 : Int) + ((xs ++ [d]).length : Int)).toNat else min (-1 : Int).toNat (xs ++ [d]).length) = _
    rw [if_pos (by decide), List.length_append, List.length_singleton]; omega
  unfold cutD
  rw [e1, e2]; simp
section
variable {m : Nat} {nx : Nat → List Nat} {kn : Nat → Option Word} {f : Nat → Word}
theorem copy_eq (ns : List Int) (x y z : Option D) : vLc (iAnyF (vVar 1)) (hName 9) tsYes e0_law [9] [some (.scr ns), some (.lst (nxD m nx)), some (.lst (woD m kn)), some (.lst (fiD m f)), x, y, none, none, none, z] = some (.lst (nxD m nx)) := by
  have lc := lcD_map' (i := 9) (elt := e0_law) (δ := [some (.scr ns), some (.lst (nxD m nx)), some (.lst (woD m kn)), some (.lst (fiD m f)), x, y, none, none, none, none]) (enc := fun (j : Nat) => D.lst (nats (nx j))) (g := fun (j : Nat) => D.lst (nats (nx j))) (xs := List.range m) (fun j _ => by unfold e0_law; simp)
  rw [vLc_def, show iAnyF (vVar 1) [some (.scr ns), some (.lst (nxD m nx)), some (.lst (woD m kn)), some (.lst (fiD m f)), x, y, none, none, none, z] = some (nxD m nx) by simp [nxD], Option.bind_some]
  show (lcD _ _ _ [some (.scr ns), some (.lst (nxD m nx)), some (.lst (woD m kn)), some (.lst (fiD m f)), x, y, none, none, none, none] (List.map _ (List.range m))).map D.lst = _
  rw [lc]; rfl
theorem fit_tab {n k : Nat} {g : Nat → D} (h : ∀ j, fitN k (g j)) : fitN (k + 1) (.lst (tab n g)) := fit_lst fun d hd => by
  obtain ⟨j, _, rfl⟩ := List.mem_map.mp hd; exact h j
theorem fit_up {n k : Nat} {d : D} (h : fitN n d) (hk : n ≤ k) : fitN k d := ⟨h.1, Nat.le_trans h.2 hk⟩
theorem fit_handed : fitN 4 (.tup [.lst (nxD m nx), .lst (woD m kn), .lst (fiD m f)]) := fit_tup (n := 3) fun d hd => by
  rcases List.mem_cons.mp hd with rfl | hd
  · exact fit_up (fit_tab (k := 1) fun j => fit_lst (n := 0) (fit_nats _ 0)) (by decide)
  · rcases List.mem_cons.mp hd with rfl | hd
    · exact fit_up (fit_tab (k := 1) fun j => fit_encO _) (by decide)
    · rw [List.mem_singleton.mp hd]; exact fit_up (fit_tab (k := 1) fun j => fit_encW _) (by decide)
end
theorem whole_ex {m : Nat} {nx : Nat → List Nat} {kn : Nat → Option Word} {f : Nat → Word} (F : Fine m nx kn f) {a : Nat} (ha : a < m) : ∃ p : List Nat × Nat, den_line [.lst (nxD m nx), .lst (woD m kn), .lst (fiD m f), .int (a : Int), .int 30] = some (.lst (nats (wayL p))) ∧ p.2 < m ∧ ∀ v, numOf (f a) = some v → ∃ b, numOf (f p.2) = some b ∧ v = b + p.1.length :=
  ⟨way nx kn f a 30, line_eq F ha (n := 30) (Nat.le_refl _), (way_lt F ha 30).1, fun v hv => way_num F ha hv 30⟩
theorem law_eval {ns : List Int} {X Y Z L L2 : List D} {a n c k : Int} (e0 : den_law_net [.scr ns] = some (.tup [.lst X, .lst Y])) (er : den_law_rounds [.lst X, .lst Y] = some (.lst Z)) (ec : den_law_cell_at [.scr ns, .int 1] = some (.int c))
    (hY : (Y.length : Int) = k) (hk : 0 < k ∧ k < 1073741824) (ha : c % k = a) (hn : c / 12 % 21 = n)
    (cp : ∀ x y z, vLc (iAnyF (vVar 1)) (hName 9) tsYes e0_law [9] [some (.scr ns), some (.lst X), some (.lst Y), some (.lst Z), x, y, none, none, none, z] = some (.lst X))
    (l1 : den_line [.lst X, .lst Y, .lst Z, .int a, .int n] = some (.lst L)) (l2 : den_line [.lst X, .lst Y, .lst Z, .int a, .int 30] = some (.lst L2)) (g1 : den_law_going [.lst X, .lst Y, .lst Z, .int a, .int n] = some (.lst L))
    (nl : den_law_numbers [.lst L, .lst L] = some (.bl true)) (he : opNe (.tup [.lst X, .lst Y, .lst Z]) (.tup [.lst X, .lst Y, .lst Z]) = some (.bl false)) (fit : L.length < sizeLine)
    (fin : ∀ x, (vOr (v2 opEq (v2 opIx (v2 opIx (vVar 3) (vVar 4)) (vC (.int 0))) (vC (.str "even"))) (v2 opEq (v2 opSub (vC1 opLen (aCons (vVar 8) aNil)) (vC (.int 1))) (v2 opSub (v2 opIx (v2 opIx (vVar 3) (vVar 4)) (vC (.int 1))) (v2 opIx (v2 opIx (vVar 3) (v2 opIx (vVar 8) (vNeg (vC (.int 1))))) (vC (.int 1)))))) [some (.scr ns), some (.lst X), some (.lst Y), some (.lst Z), some (.int a), some (.int n), x, some (.lst (L ++ [.int a])), some (.lst L2), none] = some (.bl true)) : den_law [.scr ns] = some (.bl true) := by
  refine denOf_some rfl ?_
  unfold sv_law
  show sSeq _ _ [some (.scr ns), none, none, none, none, none, none, none, none, none] = _
  have i0 : ∀ x y z : D, atI [x, y, z] 0 = some x := fun _ _ _ => rfl
  have i1 : ∀ x y z : D, atI [x, y, z] 1 = some y := fun _ _ _ => rfl
  have i2 : ∀ x y z : D, atI [x, y, z] 2 = some z := fun _ _ _ => rfl
  refine st_nx (δ1 := [some (.scr ns), some (.lst X), some (.lst Y), none, none, none, none, none, none, none]) (by simp [e0]) ?_
  refine st_nx (δ1 := [some (.scr ns), some (.lst X), some (.lst Y), some (.lst Z), none, none, none, none, none, none]) (by
    rw [sSet_def, vC1_def, show aCons (vVar 1) (aCons (vVar 2) aNil) [some (.scr ns), some (.lst X), some (.lst Y), none, none, none, none, none, none, none] = some [.lst X, .lst Y] from rfl, Option.bind_some, er, Option.map_some]; rfl) ?_
  refine st_nx (δ1 := [some (.scr ns), some (.lst X), some (.lst Y), some (.lst Z), some (.int a), none, none, none, none, none]) (by simp [ec, hY, hk, ha]) ?_
  refine st_nx (δ1 := [some (.scr ns), some (.lst X), some (.lst Y), some (.lst Z), some (.int a), some (.int n), none, none, none, none]) (by simp [ec, hn]) ?_
  refine st_nx (δ1 := [some (.scr ns), some (.lst X), some (.lst Y), some (.lst Z), some (.int a), some (.int n), some (.tup [.lst X, .lst Y, .lst Z]), none, none, none]) ?_ ?_
  · rw [sSet_def, vTup_def, aCons_def, cp]; simp
  refine st_nx (δ1 := [some (.scr ns), some (.lst X), some (.lst Y), some (.lst Z), some (.int a), some (.int n), some (.tup [.lst X, .lst Y, .lst Z]), some (.lst L), none, none]) (by simp [i0, i1, i2, l1]) ?_
  refine st_nx (δ1 := [some (.scr ns), some (.lst X), some (.lst Y), some (.lst Z), some (.int a), some (.int n), some (.tup [.lst X, .lst Y, .lst Z]), some (.lst L), none, none]) (by simp [g1, nl, he]) ?_
  refine st_nx (δ1 := [some (.scr ns), some (.lst X), some (.lst Y), some (.lst Z), some (.int a), some (.int n), some (.tup [.lst X, .lst Y, .lst Z]), some (.lst (L ++ [.int a])), none, none]) (by simp [fit]) ?_
  have cl := cut_last L (.int a)
  refine st_nx (δ1 := [some (.scr ns), some (.lst X), some (.lst Y), some (.lst Z), some (.int a), some (.int n), some (.tup [.lst X, .lst Y, .lst Z]), some (.lst (L ++ [.int a])), none, none]) (by simp [i0, i1, i2, l1, opSl, cl, nl]) ?_
  refine st_nx (δ1 := [some (.scr ns), some (.lst X), some (.lst Y), some (.lst Z), some (.int a), some (.int n), some (.tup [.lst X, .lst Y, .lst Z]), some (.lst (L ++ [.int a])), some (.lst L2), none]) (by simp [i0, i1, i2, l2]) ?_
  rw [sRet_def, fin]; rfl
theorem fin_eval {Z L2 : List D} {a : Int} {w0 w1 : Word} {q l : Int} {x0 x1 x2 x5 x6 x7 x9 : Option D} (za : atI Z a = some (encW w0)) (lw : atI L2 (-1) = some (.int q)) (zp : atI Z q = some (encW w1)) (ll : (L2.length : Int) = l + 1)
    (nm : ∀ v, numOf w0 = some v → ∃ b : Nat, (∃ s : Str, encW w1 = .tup [.str s, .int (b : Int)]) ∧ l = (v : Int) - (b : Int)) :
    (vOr (v2 opEq (v2 opIx (v2 opIx (vVar 3) (vVar 4)) (vC (.int 0))) (vC (.str "even"))) (v2 opEq (v2 opSub (vC1 opLen (aCons (vVar 8) aNil)) (vC (.int 1))) (v2 opSub (v2 opIx (v2 opIx (vVar 3) (vVar 4)) (vC (.int 1))) (v2 opIx (v2 opIx (vVar 3) (v2 opIx (vVar 8) (vNeg (vC (.int 1))))) (vC (.int 1)))))) [x0, x1, x2, some (.lst Z), some (.int a), x5, x6, x7, some (.lst L2), x9] = some (.bl true) := by
  have j0 : ∀ x y : D, atI [x, y] 0 = some x := fun _ _ => rfl
  have j1 : ∀ x y : D, atI [x, y] 1 = some y := fun _ _ => rfl
  cases w0 with
  | even => simp [za, encW, j0]
  | won v =>
    obtain ⟨b, ⟨s, e2⟩, e3⟩ := nm v rfl
    have w2 : ¬ ("won" : Str) = "even" := d2
    simp [za, lw, zp, show encW (.won v) = .tup [.str "won", .int (v : Int)] from rfl, j0, j1, e2, ll, e3, w2]
  | lost v =>
    obtain ⟨b, ⟨s, e2⟩, e3⟩ := nm v rfl
    have w2 : ¬ ("lost" : Str) = "even" := d3
    simp [za, lw, zp, show encW (.lost v) = .tup [.str "lost", .int (v : Int)] from rfl, j0, j1, e2, ll, e3, w2]
theorem law_true (ns : List Int) (hlen : ns.length ≤ 63) : den_law [.scr ns] = some (.bl true) := by
  obtain ⟨m, nx, kn, m0, m1, N, e0⟩ := law_net_ex ns
  have er := law_rounds_eq (nx := nx) (kn := kn) (m := m) N.hnx (by omega)
  have F := fine_fin N m0 m1
  obtain ⟨c, ec⟩ := law_cell_ex ns 1 (by decide)
  have er2 : den_law_rounds [.lst (nxD m nx), .lst (woD m kn)] = some (.lst (fiD m (fin nx kn m))) := er
  generalize fin nx kn m = f at er2 F
  obtain ⟨a, ha, am⟩ : ∃ a : Nat, c % (m : Int) = (a : Int) ∧ a < m := ⟨(c % (m : Int)).toNat, by have := Int.emod_nonneg c (show (m : Int) ≠ 0 by omega); omega, by have := Int.emod_nonneg c (show (m : Int) ≠ 0 by omega); have := Int.emod_lt_of_pos c (show (0 : Int) < m by omega); omega⟩
  obtain ⟨n, hn, n20⟩ : ∃ n : Nat, c / 12 % 21 = (n : Int) ∧ n ≤ 20 := ⟨(c / 12 % 21).toNat, by omega, by omega⟩
  have l1 := line_eq F am (n := n) (by omega)
  obtain ⟨p, l2, lt, wn⟩ := whole_ex F am
  have g1 := going_eq F am (n := n) (by omega)
  have nl := law_numbers_eq (wayL (way nx kn f a n))
  have he := opNe_self (fit_handed (m := m) (nx := nx) (kn := kn) (f := f)) (by decide)
  have fit : (nats (wayL (way nx kn f a n))).length < sizeLine := Nat.lt_of_lt_of_le (show (nats (wayL (way nx kn f a n))).length < 200 by rw [wayL_len]; have := (way_lt F am n).2; omega) (by decide)
  refine law_eval e0 er2 ec (k := (m : Int)) (by rw [tab_len]) ⟨by omega, by omega⟩ ha hn (fun x y z => copy_eq ns x y z) l1 l2 g1 nl he fit fun x => ?_
  have lw := last_wayL p
  have ll : ((nats (wayL p)).length : Int) = (p.1.length : Int) + 1 := by rw [wayL_len]; rfl
  have za : atI (fiD m f) (a : Int) = some (encW (f a)) := tab_at am
  have zp : atI (fiD m f) (p.2 : Int) = some (encW (f p.2)) := tab_at lt
  have nm : ∀ v, numOf (f a) = some v → ∃ b : Nat, (∃ s : Str, encW (f p.2) = .tup [.str s, .int (b : Int)]) ∧ (p.1.length : Int) = (v : Int) - (b : Int) := fun v hv => by
    obtain ⟨b, h1, h2⟩ := wn v hv
    refine ⟨b, ?_, by omega⟩
    cases q2 : f p.2 with
    | won u => rw [q2] at h1; cases h1; exact ⟨_, rfl⟩
    | lost u => rw [q2] at h1; cases h1; exact ⟨_, rfl⟩
    | even => rw [q2] at h1; cases h1
  exact fin_eval za lw zp ll nm
end Pr
set_option maxHeartbeats 4000000
namespace Pr
open PySem L2 Dl
theorem all_mk {l : PySem.W.OpenLaw} {w : World} {K : PySem.W.Frag} {h : Heap} {mg : Str → Option Value} {fa : Addr} (X : K.In h) (G : h.Ns mainGlobals mg) (hfa : mg "law" = some (.ref fa))
    {f0 : Addr} {od0 an0 : Option Addr} {sl0 : Array (Option Value)} {oc0 kV0 dc0 pm0 cd0 ct0 : Value}
    {f1 : Addr} {od1 an1 : Option Addr} {sl1 : Array (Option Value)} {oc1 kV1 dc1 pm1 cd1 ct1 : Value}
    {f2 : Addr} {od2 an2 : Option Addr} {sl2 : Array (Option Value)} {oc2 kV2 dc2 pm2 cd2 ct2 : Value}
    {f3 : Addr} {od3 an3 : Option Addr} {sl3 : Array (Option Value)} {oc3 kV3 dc3 pm3 cd3 ct3 : Value}
    {f4 : Addr} {od4 an4 : Option Addr} {sl4 : Array (Option Value)} {oc4 kV4 dc4 pm4 cd4 ct4 : Value}
    {f5 : Addr} {od5 an5 : Option Addr} {sl5 : Array (Option Value)} {oc5 kV5 dc5 pm5 cd5 ct5 : Value}
    {f6 : Addr} {od6 an6 : Option Addr} {sl6 : Array (Option Value)} {oc6 kV6 dc6 pm6 cd6 ct6 : Value}
    {f7 : Addr} {od7 an7 : Option Addr} {sl7 : Array (Option Value)} {oc7 kV7 dc7 pm7 cd7 ct7 : Value}
    {f8 : Addr} {od8 an8 : Option Addr} {sl8 : Array (Option Value)} {oc8 kV8 dc8 pm8 cd8 ct8 : Value}
    {f9 : Addr} {od9 an9 : Option Addr} {sl9 : Array (Option Value)} {oc9 kV9 dc9 pm9 cd9 ct9 : Value}
    {f10 : Addr} {od10 an10 : Option Addr} {sl10 : Array (Option Value)} {oc10 kV10 dc10 pm10 cd10 ct10 : Value}
    {f11 : Addr} {od11 an11 : Option Addr} {sl11 : Array (Option Value)} {oc11 kV11 dc11 pm11 cd11 ct11 : Value}
    {f12 : Addr} {od12 an12 : Option Addr} {sl12 : Array (Option Value)} {oc12 kV12 dc12 pm12 cd12 ct12 : Value}
    (a0 : PySem.W.nsIn K mainGlobals "wanted" = some (some (.ref f0))) (l0 : K.lookup f0 = some ⟨oc0, od0, .func (PySem.W.fnOf "wanted" "wanted" (defArgs s_wanted) (defBody s_wanted) (defScope s_wanted) .none kV0 dc0 pm0 an0 cd0 ct0), sl0⟩) (c0 : PySem.W.codeIn K cd0 "wanted" = true) (k0 : PySem.W.keepIn K (.ref f0) = true)
    (a1 : PySem.W.nsIn K mainGlobals "best" = some (some (.ref f1))) (l1 : K.lookup f1 = some ⟨oc1, od1, .func (PySem.W.fnOf "best" "best" (defArgs s_best) (defBody s_best) (defScope s_best) .none kV1 dc1 pm1 an1 cd1 ct1), sl1⟩) (c1 : PySem.W.codeIn K cd1 "best" = true) (k1 : PySem.W.keepIn K (.ref f1) = true)
    (a2 : PySem.W.nsIn K mainGlobals "line" = some (some (.ref f2))) (l2 : K.lookup f2 = some ⟨oc2, od2, .func (PySem.W.fnOf "line" "line" (defArgs s_line) (defBody s_line) (defScope s_line) .none kV2 dc2 pm2 an2 cd2 ct2), sl2⟩) (c2 : PySem.W.codeIn K cd2 "line" = true) (k2 : PySem.W.keepIn K (.ref f2) = true)
    (a3 : PySem.W.nsIn K mainGlobals "_law_cell_at" = some (some (.ref f3))) (l3 : K.lookup f3 = some ⟨oc3, od3, .func (PySem.W.fnOf "_law_cell_at" "_law_cell_at" (defArgs s_law_cell_at) (defBody s_law_cell_at) (defScope s_law_cell_at) .none kV3 dc3 pm3 an3 cd3 ct3), sl3⟩) (c3 : PySem.W.codeIn K cd3 "_law_cell_at" = true) (k3 : PySem.W.keepIn K (.ref f3) = true)
    (a4 : PySem.W.nsIn K mainGlobals "_law_known" = some (some (.ref f4))) (l4 : K.lookup f4 = some ⟨oc4, od4, .func (PySem.W.fnOf "_law_known" "_law_known" (defArgs s_law_known) (defBody s_law_known) (defScope s_law_known) .none kV4 dc4 pm4 an4 cd4 ct4), sl4⟩) (c4 : PySem.W.codeIn K cd4 "_law_known" = true) (k4 : PySem.W.keepIn K (.ref f4) = true)
    (a5 : PySem.W.nsIn K mainGlobals "_law_nexts" = some (some (.ref f5))) (l5 : K.lookup f5 = some ⟨oc5, od5, .func (PySem.W.fnOf "_law_nexts" "_law_nexts" (defArgs s_law_nexts) (defBody s_law_nexts) (defScope s_law_nexts) .none kV5 dc5 pm5 an5 cd5 ct5), sl5⟩) (c5 : PySem.W.codeIn K cd5 "_law_nexts" = true) (k5 : PySem.W.keepIn K (.ref f5) = true)
    (a6 : PySem.W.nsIn K mainGlobals "_law_net" = some (some (.ref f6))) (l6 : K.lookup f6 = some ⟨oc6, od6, .func (PySem.W.fnOf "_law_net" "_law_net" (defArgs s_law_net) (defBody s_law_net) (defScope s_law_net) .none kV6 dc6 pm6 an6 cd6 ct6), sl6⟩) (c6 : PySem.W.codeIn K cd6 "_law_net" = true) (k6 : PySem.W.keepIn K (.ref f6) = true)
    (a7 : PySem.W.nsIn K mainGlobals "_law_comes_up" = some (some (.ref f7))) (l7 : K.lookup f7 = some ⟨oc7, od7, .func (PySem.W.fnOf "_law_comes_up" "_law_comes_up" (defArgs s_law_comes_up) (defBody s_law_comes_up) (defScope s_law_comes_up) .none kV7 dc7 pm7 an7 cd7 ct7), sl7⟩) (c7 : PySem.W.codeIn K cd7 "_law_comes_up" = true) (k7 : PySem.W.keepIn K (.ref f7) = true)
    (a8 : PySem.W.nsIn K mainGlobals "_law_rounds" = some (some (.ref f8))) (l8 : K.lookup f8 = some ⟨oc8, od8, .func (PySem.W.fnOf "_law_rounds" "_law_rounds" (defArgs s_law_rounds) (defBody s_law_rounds) (defScope s_law_rounds) .none kV8 dc8 pm8 an8 cd8 ct8), sl8⟩) (c8 : PySem.W.codeIn K cd8 "_law_rounds" = true) (k8 : PySem.W.keepIn K (.ref f8) = true)
    (a9 : PySem.W.nsIn K mainGlobals "_law_first" = some (some (.ref f9))) (l9 : K.lookup f9 = some ⟨oc9, od9, .func (PySem.W.fnOf "_law_first" "_law_first" (defArgs s_law_first) (defBody s_law_first) (defScope s_law_first) .none kV9 dc9 pm9 an9 cd9 ct9), sl9⟩) (c9 : PySem.W.codeIn K cd9 "_law_first" = true) (k9 : PySem.W.keepIn K (.ref f9) = true)
    (a10 : PySem.W.nsIn K mainGlobals "_law_going" = some (some (.ref f10))) (l10 : K.lookup f10 = some ⟨oc10, od10, .func (PySem.W.fnOf "_law_going" "_law_going" (defArgs s_law_going) (defBody s_law_going) (defScope s_law_going) .none kV10 dc10 pm10 an10 cd10 ct10), sl10⟩) (c10 : PySem.W.codeIn K cd10 "_law_going" = true) (k10 : PySem.W.keepIn K (.ref f10) = true)
    (a11 : PySem.W.nsIn K mainGlobals "_law_numbers" = some (some (.ref f11))) (l11 : K.lookup f11 = some ⟨oc11, od11, .func (PySem.W.fnOf "_law_numbers" "_law_numbers" (defArgs s_law_numbers) (defBody s_law_numbers) (defScope s_law_numbers) .none kV11 dc11 pm11 an11 cd11 ct11), sl11⟩) (c11 : PySem.W.codeIn K cd11 "_law_numbers" = true) (k11 : PySem.W.keepIn K (.ref f11) = true)
    (a12 : PySem.W.nsIn K mainGlobals "law" = some (some (.ref f12))) (l12 : K.lookup f12 = some ⟨oc12, od12, .func (PySem.W.fnOf "law" "law" (defArgs s_law) (defBody s_law) (defScope s_law) .none kV12 dc12 pm12 an12 cd12 ct12), sl12⟩) (c12 : PySem.W.codeIn K cd12 "law" = true) (k12 : PySem.W.keepIn K (.ref f12) = true)
    (z_sorted : PySem.W.nsIn K mainGlobals "sorted" = some none)
    (z_set : PySem.W.nsIn K mainGlobals "set" = some none)
    (z_len : PySem.W.nsIn K mainGlobals "len" = some none)
    (z_range : PySem.W.nsIn K mainGlobals "range" = some none)
    (z_max : PySem.W.nsIn K mainGlobals "max" = some none)
    (z_min : PySem.W.nsIn K mainGlobals "min" = some none)
    (z_bool : PySem.W.nsIn K mainGlobals "bool" = some none)
    (z_isinstance : PySem.W.nsIn K mainGlobals "isinstance" = some none)
    (z_list : PySem.W.nsIn K mainGlobals "list" = some none)
    (z_int : PySem.W.nsIn K mainGlobals "int" = some none)
    (hden : ∀ ns : List Int, ns.length ≤ 63 → den_law [.scr ns] = some (.bl true)) :
    ∃ fd : FuncData, (∀ (s : Shared) (v : Value), BindsTo s fd ⟨[v], []⟩ [("_law_script", v)]) ∧ ∀ base : Heap, K.In base → base.Ns mainGlobals mg → FnOk l.prog w K mg base CX0 4 fa fd ["_law_script"] (spLaw K) := by
  have e := hfa.symm.trans (PySem.W.mg_of X G a12)
  cases e
  have F0 := fun_mk (st := s_wanted) l0 c0 k0
  have b0 := F0.binds (ps := ["word"]) fun _ _ _ _ _ _ us hl => match us, hl with | [_], _ => rfl
  have F1 := fun_mk (st := s_best) l1 c1 k1
  have b1 := F1.binds (ps := ["nexts", "known", "words", "number"]) fun _ _ _ _ _ _ us hl => match us, hl with | [_, _, _, _], _ => rfl
  have F2 := fun_mk (st := s_line) l2 c2 k2
  have b2 := F2.binds (ps := ["nexts", "known", "words", "number", "most"]) fun _ _ _ _ _ _ us hl => match us, hl with | [_, _, _, _, _], _ => rfl
  have F3 := fun_mk (st := s_law_cell_at) l3 c3 k3
  have b3 := F3.binds (ps := ["_law_script", "_law_k"]) fun _ _ _ _ _ _ us hl => match us, hl with | [_, _], _ => rfl
  have F4 := fun_mk (st := s_law_known) l4 c4 k4
  have b4 := F4.binds (ps := ["_law_cell"]) fun _ _ _ _ _ _ us hl => match us, hl with | [_], _ => rfl
  have F5 := fun_mk (st := s_law_nexts) l5 c5 k5
  have b5 := F5.binds (ps := ["_law_cell", "_law_many"]) fun _ _ _ _ _ _ us hl => match us, hl with | [_, _], _ => rfl
  have F6 := fun_mk (st := s_law_net) l6 c6 k6
  have b6 := F6.binds (ps := ["_law_script"]) fun _ _ _ _ _ _ us hl => match us, hl with | [_], _ => rfl
  have F7 := fun_mk (st := s_law_comes_up) l7 c7 k7
  have b7 := F7.binds (ps := ["_law_numbers_here", "_law_words", "_law_turn"]) fun _ _ _ _ _ _ us hl => match us, hl with | [_, _, _], _ => rfl
  have F8 := fun_mk (st := s_law_rounds) l8 c8 k8
  have b8 := F8.binds (ps := ["_law_nexts_here", "_law_known_here"]) fun _ _ _ _ _ _ us hl => match us, hl with | [_, _], _ => rfl
  have F9 := fun_mk (st := s_law_first) l9 c9 k9
  have b9 := F9.binds (ps := ["_law_nexts_here", "_law_words", "_law_at"]) fun _ _ _ _ _ _ us hl => match us, hl with | [_, _, _], _ => rfl
  have F10 := fun_mk (st := s_law_going) l10 c10 k10
  have b10 := F10.binds (ps := ["_law_nexts_here", "_law_known_here", "_law_words", "_law_at", "_law_most"]) fun _ _ _ _ _ _ us hl => match us, hl with | [_, _, _, _, _], _ => rfl
  have F11 := fun_mk (st := s_law_numbers) l11 c11 k11
  have b11 := F11.binds (ps := ["_law_found", "_law_due"]) fun _ _ _ _ _ _ us hl => match us, hl with | [_, _], _ => rfl
  have F12 := fun_mk (st := s_law) l12 c12 k12
  have b12 := F12.binds (ps := ["_law_script"]) fun _ _ _ _ _ _ us hl => match us, hl with | [_], _ => rfl
  exact ⟨_, fun s v => .of_eq rfl, fun base _ _ => law_of (Γ := fun _ => none) (.inl rfl) hden (ok_law ⟨⟨_, _, F0, PySem.W.mg_of X G a0, b0⟩, ⟨_, _, F1, PySem.W.mg_of X G a1, b1⟩, ⟨_, _, F2, PySem.W.mg_of X G a2, b2⟩, ⟨_, _, F3, PySem.W.mg_of X G a3, b3⟩, ⟨_, _, F4, PySem.W.mg_of X G a4, b4⟩, ⟨_, _, F5, PySem.W.mg_of X G a5, b5⟩, ⟨_, _, F6, PySem.W.mg_of X G a6, b6⟩, ⟨_, _, F7, PySem.W.mg_of X G a7, b7⟩, ⟨_, _, F8, PySem.W.mg_of X G a8, b8⟩, ⟨_, _, F9, PySem.W.mg_of X G a9, b9⟩, ⟨_, _, F10, PySem.W.mg_of X G a10, b10⟩, ⟨_, _, F11, PySem.W.mg_of X G a11, b11⟩, ⟨_, _, F12, PySem.W.mg_of X G a12, b12⟩, PySem.W.mg_none_of X G z_sorted, PySem.W.mg_none_of X G z_set, PySem.W.mg_none_of X G z_len, PySem.W.mg_none_of X G z_range, PySem.W.mg_none_of X G z_max, PySem.W.mg_none_of X G z_min, PySem.W.mg_none_of X G z_bool, PySem.W.mg_none_of X G z_isinstance, PySem.W.mg_none_of X G z_list, PySem.W.mg_none_of X G z_int⟩)⟩
end Pr
open PySem PySem.W PyProof.Rows
set_option maxHeartbeats 0 in
set_option maxRecDepth 100000 in
theorem PySem.Challenge.cw_playboard_k25_lines_holds : PySem.Challenge.rw_playboard_k25_lines.Holds := by
  w_on; o_law; k_head; (case hw => w_witness2)
  k_fill
  refine L2.walk_ofK (l := PySem.Challenge.rw_playboard_k25_lines) (n := 63) (k := 4) (x := "_law_script") (CX := L2.CX0) (sp := Dl.spLaw) rfl (by decide) rfl ⟨rfl, by decide, by decide⟩ (fun w h Y => PySem.W.kIn_of Y) ?F (fun _ _ a ns hl _ hS => ⟨a, ns, rfl, hS, hl, fun _ => rfl⟩) (fun _ _ _ _ h => h)
  case F =>
    intro w mg fa h KX G hmg
    refine' Pr.all_mk KX G hmg ?a0 ?l0 ?c0 ?k0 ?a1 ?l1 ?c1 ?k1 ?a2 ?l2 ?c2 ?k2 ?a3 ?l3 ?c3 ?k3 ?a4 ?l4 ?c4 ?k4 ?a5 ?l5 ?c5 ?k5 ?a6 ?l6 ?c6 ?k6 ?a7 ?l7 ?c7 ?k7 ?a8 ?l8 ?c8 ?k8 ?a9 ?l9 ?c9 ?k9 ?a10 ?l10 ?c10 ?k10 ?a11 ?l11 ?c11 ?k11 ?a12 ?l12 ?c12 ?k12 ?z_sorted ?z_set ?z_len ?z_range ?z_max ?z_min ?z_bool ?z_isinstance ?z_list ?z_int Pr.law_true
    (case a0 => k_is)
    (case l0 => k_is)
    (case c0 => k_is)
    (case k0 => k_is)
    (case a1 => k_is)
    (case l1 => k_is)
    (case c1 => k_is)
    (case k1 => k_is)
    (case a2 => k_is)
    (case l2 => k_is)
    (case c2 => k_is)
    (case k2 => k_is)
    (case a3 => k_is)
    (case l3 => k_is)
    (case c3 => k_is)
    (case k3 => k_is)
    (case a4 => k_is)
    (case l4 => k_is)
    (case c4 => k_is)
    (case k4 => k_is)
    (case a5 => k_is)
    (case l5 => k_is)
    (case c5 => k_is)
    (case k5 => k_is)
    (case a6 => k_is)
    (case l6 => k_is)
    (case c6 => k_is)
    (case k6 => k_is)
    (case a7 => k_is)
    (case l7 => k_is)
    (case c7 => k_is)
    (case k7 => k_is)
    (case a8 => k_is)
    (case l8 => k_is)
    (case c8 => k_is)
    (case k8 => k_is)
    (case a9 => k_is)
    (case l9 => k_is)
    (case c9 => k_is)
    (case k9 => k_is)
    (case a10 => k_is)
    (case l10 => k_is)
    (case c10 => k_is)
    (case k10 => k_is)
    (case a11 => k_is)
    (case l11 => k_is)
    (case c11 => k_is)
    (case k11 => k_is)
    (case a12 => k_is)
    (case l12 => k_is)
    (case c12 => k_is)
    (case k12 => k_is)
    (case z_sorted => k_is)
    (case z_set => k_is)
    (case z_len => k_is)
    (case z_range => k_is)
    (case z_max => k_is)
    (case z_min => k_is)
    (case z_bool => k_is)
    (case z_isinstance => k_is)
    (case z_list => k_is)
    (case z_int => k_is)
