import PyProof.Rows.All
import Wide.All
import OpenK.AllK
import Wide.FinOn
import HandS.ForMost
import HandS.ForExc
import HandS.IsInst
import HandS.Small
import HandS.More
import HandS.TupLen
import HandS.TupAny
import HandS.TupMul
import HandS.TupLe
import KE.DataEq
import KE.SortData
import HandS.FStr
import HandS.SetFor
import HandS.Strs
import HandS.Zip
import HandS.Rev
import HandS.RevRange
import HandS.SortInts
import PyProof.EnumMake
import PyProof.Draws
import HandS.SortRule
import HandS.Conv
import PyProof.ListStr
import PyProof.Rows.SortShellAny
import HandS.DictComp
import HandS.ExcIs
import HandS.HotCalls
import HandS.TryMany
import KE.KDictZip
import HandS.Replace
import HandS.ReplaceLit
import HandS.TryOnly
import HandS.MapObj
import PySem.Challenge.RW_playboard_k11_shown_and_read
set_option Elab.async false
set_option linter.all false
set_option maxRecDepth 100000
/-! D: data without a heap; what it means that a value of the abstract heap bears a datum; environments. -/
namespace Dl
open PySem L2

inductive D where
  | non | bl (b : Bool) | int (i : Int) | str (x : Str) | ty (n : String) | scr (ns : List Int)
  | lst (xs : List D) | tup (xs : List D) | ktup (xs : List D) | dicK (kvs : List (Key × D)) | dicT (kvs : List (List Key × D)) | ins (c : Str) (fs : List (Str × D)) | slf (a : Addr) (c : Str) (fs : List (Str × D)) | exc (a : Addr) (c : Str) | cls (c : Str)
  deriving Inhabited

abbrev CM := Str → Option Addr
def excN : List Str := ["PlayError", "BadBoard", "BadGame", "BadLine", "BadPlace", "NoMove", "TooWide", "NoWord", "Over", "NothingBack"]
/-- the classes that have instances; the others are exceptions -/
def iM (Γ : CM) : CM := fun c => if excN.contains c = true then none else Γ c

mutual
def Rep (K : PySem.W.Frag) (Γ : CM) (S : Hp) : D → V → Prop
  | .non, v => v = .non
  | .bl b, v => v = .bl b
  | .int i, v => v = .int i
  | .str x, v => v = .str x ∧ x.length ≤ sizeLine
  | .ty n, v => v = .ty n
  | .scr ns, v => ∃ a, v = .ref a ∧ SqL K S a (ns.map V.int) ∧ ns.length ≤ 63
  | .lst ds, v => ∃ a vs, v = .ref a ∧ S a = some (.lst vs) ∧ ds.length ≤ sizeLine ∧ RepL K Γ S ds vs
  | .tup ds, v => ∃ a vs, v = .ref a ∧ S a = some (.tup vs) ∧ ds.length ≤ sizeLine ∧ RepL K Γ S ds vs
  | .ktup ds, v => ∃ a vs, v = .ref a ∧ SqT K S a vs ∧ ds.length ≤ sizeLine ∧ RepL K Γ S ds vs
  | .dicK ds, v => ∃ a vs, v = .ref a ∧ S a = some (.dK vs) ∧ RepK K Γ S ds vs
  | .dicT ds, v => ∃ a vs, v = .ref a ∧ S a = some (.dT vs) ∧ RepT K Γ S ds vs
  | .ins c ds, v => ∃ a C dx vs, v = .ref a ∧ iM Γ c = some C ∧ S a = some (.ins C dx vs) ∧ RepF K Γ S ds vs
  | .slf b c ds, v => ∃ a C dx vs, v = .ref a ∧ iM Γ c = some C ∧ S a = some (.ins C dx vs) ∧ RepF K Γ S ds vs ∧ a = b
  | .exc a _, v => v = .ref a
  | .cls c, v => ∃ C, Γ c = some C ∧ v = .ref C
def RepL (K : PySem.W.Frag) (Γ : CM) (S : Hp) : List D → List V → Prop
  | [], vs => vs = []
  | d :: ds, vs => ∃ v ws, vs = v :: ws ∧ Rep K Γ S d v ∧ RepL K Γ S ds ws
def RepK (K : PySem.W.Frag) (Γ : CM) (S : Hp) : List (Key × D) → List (Key × V) → Prop
  | [], vs => vs = []
  | (k, d) :: ds, vs => ∃ v ws, vs = (k, v) :: ws ∧ Rep K Γ S d v ∧ RepK K Γ S ds ws
def RepT (K : PySem.W.Frag) (Γ : CM) (S : Hp) : List (List Key × D) → List (List Key × V) → Prop
  | [], vs => vs = []
  | (k, d) :: ds, vs => ∃ v ws, vs = (k, v) :: ws ∧ Rep K Γ S d v ∧ RepT K Γ S ds ws
def RepF (K : PySem.W.Frag) (Γ : CM) (S : Hp) : List (Str × D) → List (Str × V) → Prop
  | [], vs => vs = []
  | (k, d) :: ds, vs => ∃ v ws, vs = (k, v) :: ws ∧ Rep K Γ S d v ∧ RepF K Γ S ds ws
end

theorem Same.sqt {K : PySem.W.Frag} {H H' : Hp} {a : Addr} {xs : List V} (e : Same H H') (h : SqT K H a xs) : SqT K H' a xs := by
  rcases h with (h | ⟨o, h⟩) | h
  · exact .inl (.inl (e _ _ h))
  · exact .inl (.inr ⟨o, e _ _ h⟩)
  · exact .inr h

section
variable {K : PySem.W.Frag} {Γ : CM} {S S' : Hp}
mutual
theorem Rep.mono (s : Same S S') : ∀ {d : D} {v : V}, Rep K Γ S d v → Rep K Γ S' d v
  | .non, _, h => h
  | .bl _, _, h => h
  | .int _, _, h => h
  | .str _, _, h => h
  | .ty _, _, h => h
  | .scr _, _, ⟨a, e, h, n⟩ => ⟨a, e, s.seq h, n⟩
  | .lst ds, _, ⟨a, vs, e, h, n, r⟩ => ⟨a, vs, e, s _ _ h, n, RepL.mono s r⟩
  | .tup ds, _, ⟨a, vs, e, h, n, r⟩ => ⟨a, vs, e, s _ _ h, n, RepL.mono s r⟩
  | .ktup ds, _, ⟨a, vs, e, h, n, r⟩ => ⟨a, vs, e, Same.sqt s h, n, RepL.mono s r⟩
  | .dicK ds, _, ⟨a, vs, e, h, r⟩ => ⟨a, vs, e, s _ _ h, RepK.mono s r⟩
  | .dicT ds, _, ⟨a, vs, e, h, r⟩ => ⟨a, vs, e, s _ _ h, RepT.mono s r⟩
  | .ins c ds, _, ⟨a, C, dx, vs, e, g, h, r⟩ => ⟨a, C, dx, vs, e, g, s _ _ h, RepF.mono s r⟩
  | .slf b c ds, _, ⟨a, C, dx, vs, e, g, h, r, q⟩ => ⟨a, C, dx, vs, e, g, s _ _ h, RepF.mono s r, q⟩
  | .exc _ _, _, h => h
  | .cls _, _, h => h
theorem RepL.mono (s : Same S S') : ∀ {ds : List D} {vs : List V}, RepL K Γ S ds vs → RepL K Γ S' ds vs
  | [], _, h => h
  | d :: ds, _, ⟨v, ws, e, r, t⟩ => ⟨v, ws, e, Rep.mono s r, RepL.mono s t⟩
theorem RepK.mono (s : Same S S') : ∀ {ds : List (Key × D)} {vs : List (Key × V)}, RepK K Γ S ds vs → RepK K Γ S' ds vs
  | [], _, h => h
  | (k, d) :: ds, _, ⟨v, ws, e, r, t⟩ => ⟨v, ws, e, Rep.mono s r, RepK.mono s t⟩
theorem RepT.mono (s : Same S S') : ∀ {ds : List (List Key × D)} {vs : List (List Key × V)}, RepT K Γ S ds vs → RepT K Γ S' ds vs
  | [], _, h => h
  | (k, d) :: ds, _, ⟨v, ws, e, r, t⟩ => ⟨v, ws, e, Rep.mono s r, RepT.mono s t⟩
theorem RepF.mono (s : Same S S') : ∀ {ds : List (Str × D)} {vs : List (Str × V)}, RepF K Γ S ds vs → RepF K Γ S' ds vs
  | [], _, h => h
  | (k, d) :: ds, _, ⟨v, ws, e, r, t⟩ => ⟨v, ws, e, Rep.mono s r, RepF.mono s t⟩
end

theorem RepL.length : ∀ {ds : List D} {vs : List V}, RepL K Γ S ds vs → vs.length = ds.length
  | [], _, h => by rw [show _ = [] from h]; rfl
  | d :: ds, _, ⟨v, ws, e, r, t⟩ => by rw [e, List.length_cons, List.length_cons, RepL.length t]
theorem RepL.get : ∀ {ds : List D} {vs : List V} {i : Nat} {d : D}, RepL K Γ S ds vs → ds[i]? = some d → ∃ v, vs[i]? = some v ∧ Rep K Γ S d v
  | [], _, _, _, _, e => by simp at e
  | x :: ds, _, 0, d, ⟨v, ws, e, r, t⟩, q => by
    subst e
    have e : x = d := Option.some.inj q
    exact ⟨v, rfl, e ▸ r⟩
  | x :: ds, _, i + 1, d, ⟨v, ws, e, r, t⟩, q => by
    subst e
    exact RepL.get (i := i) t q
theorem RepL.append : ∀ {ds es : List D} {vs ws : List V}, RepL K Γ S ds vs → RepL K Γ S es ws → RepL K Γ S (ds ++ es) (vs ++ ws)
  | [], _, _, _, h, q => by rw [show _ = [] from h]; exact q
  | d :: ds, _, _, _, ⟨v, ws, e, r, t⟩, q => by
    subst e
    exact ⟨v, _, rfl, r, RepL.append t q⟩
theorem RepL.one {d : D} {v : V} (r : Rep K Γ S d v) : RepL K Γ S [d] [v] := ⟨v, [], rfl, r, rfl⟩
theorem RepL.take : ∀ {ds : List D} {vs : List V} (n : Nat), RepL K Γ S ds vs → RepL K Γ S (ds.take n) (vs.take n)
  | _, _, 0, h => by rw [List.take_zero, List.take_zero]; rfl
  | [], _, _ + 1, h => by rw [show _ = [] from h, List.take_nil, List.take_nil]; rfl
  | d :: ds, _, n + 1, ⟨v, ws, e, r, t⟩ => by
    subst e
    exact ⟨v, _, rfl, r, RepL.take n t⟩
theorem RepL.drop : ∀ {ds : List D} {vs : List V} (n : Nat), RepL K Γ S ds vs → RepL K Γ S (ds.drop n) (vs.drop n)
  | _, _, 0, h => h
  | [], _, _ + 1, h => by rw [show _ = [] from h, List.drop_nil, List.drop_nil]; rfl
  | d :: ds, _, n + 1, ⟨v, ws, e, r, t⟩ => by
    subst e
    exact RepL.drop n t
theorem RepL.set {d : D} {v : V} (r : Rep K Γ S d v) : ∀ {ds : List D} {vs : List V} (i : Nat), RepL K Γ S ds vs → RepL K Γ S (ds.set i d) (vs.set i v)
  | [], _, _, h => by rw [show _ = [] from h]; rfl
  | x :: ds, _, 0, ⟨w, ws, e, q, t⟩ => by subst e; exact ⟨v, ws, rfl, r, t⟩
  | x :: ds, _, i + 1, ⟨w, ws, e, q, t⟩ => by subst e; exact ⟨w, _, rfl, q, RepL.set r i t⟩
theorem RepL.ints : ∀ (ns : List Int), RepL K Γ S (ns.map D.int) (ns.map V.int)
  | [] => rfl
  | n :: ns => ⟨.int n, _, rfl, rfl, RepL.ints ns⟩
end

/-! ### heaps: S the shared part of H; ahead S H, behind S' H' -/
def isTupO : HO → Bool
  | .tup _ => true
  | _ => false
structure Ext (S H S' H' : Hp) : Prop where
  ss : Same S S'
  hh : Same H H'
  sh : Same S' H'
  fr : ∀ a o, H a = some o → isTupO o = false → S a = none → S' a = none
theorem Ext.refl {S H : Hp} (s : Same S H) : Ext S H S H := ⟨Same.refl _, Same.refl _, s, fun _ _ _ _ h => h⟩
theorem Ext.trans {S H S1 H1 S2 H2 : Hp} (a : Ext S H S1 H1) (b : Ext S1 H1 S2 H2) : Ext S H S2 H2 :=
  ⟨a.ss.trans b.ss, a.hh.trans b.hh, b.sh, fun c o h t n => b.fr c o (a.hh c o h) t (a.fr c o h t n)⟩
theorem Same.upd {H : Hp} {p : Addr} {o : HO} (h : H p = none) : Same H (upd H p o) := fun b x e => by
  rw [upd_ne (ne_of_none e h)]
  exact e
theorem Same.none {S H : Hp} (s : Same S H) {p : Addr} (h : H p = none) : S p = none := s.free h
/-- a new shared object -/
theorem Ext.shared {S H : Hp} (s : Same S H) {p : Addr} (h : H p = none) (o : HO) : Ext S H (upd S p o) (upd H p o) :=
  ⟨Same.upd (Same.none s h), Same.upd h, fun b x e => by
    by_cases q : b = p
    · subst q; rw [upd_same] at e ⊢; exact e
    · rw [upd_ne q] at e ⊢; exact s b x e, fun b x e _ n => by
    rw [upd_ne (ne_of_none e h)]
    exact n⟩
/-- a new object that is not shared (yet) -/
theorem Ext.owned {S H : Hp} (s : Same S H) {p : Addr} (h : H p = none) (o : HO) : Ext S H S (upd H p o) :=
  ⟨Same.refl _, Same.upd h, s.trans (Same.upd h), fun _ _ _ _ n => n⟩

/-! ### modes: shared; borrowed (stands at the entry, is read); read (an owned one, read); owned -/
inductive Mode where | sh | bo | rd | ow
  deriving DecidableEq

/-- a changeable datum at a, its parts shared -/
def TopAt (K : PySem.W.Frag) (Γ : CM) (S H : Hp) (a : Addr) : D → Prop
  | .lst ds => ∃ vs, H a = some (.lst vs) ∧ ds.length ≤ sizeLine ∧ RepL K Γ S ds vs
  | .dicK ds => ∃ vs, H a = some (.dK vs) ∧ RepK K Γ S ds vs
  | .dicT ds => ∃ vs, H a = some (.dT vs) ∧ RepT K Γ S ds vs
  | .slf b c ds => ∃ C dx vs, H a = some (.ins C dx vs) ∧ iM Γ c = some C ∧ RepF K Γ S ds vs ∧ a = b
  | _ => False
def RepM (K : PySem.W.Frag) (Γ : CM) (H0 S H : Hp) : Mode → D → V → Prop
  | .sh, d, v => Rep K Γ S d v
  | .bo, d, v => Rep K Γ S d v ∨ ∃ a, v = .ref a ∧ TopAt K Γ S H0 a d
  | .rd, d, v => Rep K Γ S d v ∨ ∃ a, v = .ref a ∧ TopAt K Γ S H a d
  | .ow, d, v => ∃ a, v = .ref a ∧ S a = none ∧ TopAt K Γ S H a d
section
variable {K : PySem.W.Frag} {Γ : CM} {H0 S H S' H' : Hp} {a : Addr} {d : D} {v : V} {m : Mode}
theorem TopAt.mono (s : Same S S') (h : ∀ o, H a = some o → H' a = some o) (t : TopAt K Γ S H a d) : TopAt K Γ S' H' a d := by
  cases d with
  | lst ds => obtain ⟨vs, e, n, r⟩ := t; exact ⟨vs, h _ e, n, r.mono s⟩
  | dicK ds => obtain ⟨vs, e, r⟩ := t; exact ⟨vs, h _ e, r.mono s⟩
  | dicT ds => obtain ⟨vs, e, r⟩ := t; exact ⟨vs, h _ e, r.mono s⟩
  | slf b c ds => obtain ⟨C, dx, vs, e, g, r, q⟩ := t; exact ⟨C, dx, vs, h _ e, g, r.mono s, q⟩
  | _ => exact t.elim
theorem TopAt.there (t : TopAt K Γ S H a d) : ∃ o, H a = some o := by
  cases d with
  | lst ds => obtain ⟨vs, e, _⟩ := t; exact ⟨_, e⟩
  | dicK ds => obtain ⟨vs, e, _⟩ := t; exact ⟨_, e⟩
  | dicT ds => obtain ⟨vs, e, _⟩ := t; exact ⟨_, e⟩
  | slf b c ds => obtain ⟨C, dx, vs, e, _⟩ := t; exact ⟨_, e⟩
  | _ => exact t.elim
theorem TopAt.there2 (t : TopAt K Γ S H a d) : ∃ o, H a = some o ∧ isTupO o = false := by
  cases d with
  | lst ds => obtain ⟨vs, e, _⟩ := t; exact ⟨_, e, rfl⟩
  | dicK ds => obtain ⟨vs, e, _⟩ := t; exact ⟨_, e, rfl⟩
  | dicT ds => obtain ⟨vs, e, _⟩ := t; exact ⟨_, e, rfl⟩
  | slf b c ds => obtain ⟨C, dx, vs, e, _⟩ := t; exact ⟨_, e, rfl⟩
  | _ => exact t.elim
theorem RepM.mono (e : Ext S H S' H') (r : RepM K Γ H0 S H m d v) : RepM K Γ H0 S' H' m d v := by
  cases m with
  | sh => exact Rep.mono e.ss r
  | bo =>
    rcases r with r | ⟨a, ev, t⟩
    · exact .inl (Rep.mono e.ss r)
    · exact .inr ⟨a, ev, t.mono e.ss fun _ q => q⟩
  | rd =>
    rcases r with r | ⟨a, ev, t⟩
    · exact .inl (Rep.mono e.ss r)
    · exact .inr ⟨a, ev, t.mono e.ss fun _ q => e.hh _ _ q⟩
  | ow =>
    obtain ⟨a, ev, n, t⟩ := r
    obtain ⟨o, ho, ht⟩ := t.there2
    exact ⟨a, ev, e.fr a o ho ht n, t.mono e.ss fun _ q => e.hh _ _ q⟩
/-- an owned datum at a becomes shared -/
theorem TopAt.share (s : Same S H) (n : S a = none) (t : TopAt K Γ S H a d) : ∃ S', Same S S' ∧ Same S' H ∧ Rep K Γ S' d (.ref a) ∧ ∀ b, b ≠ a → S' b = S b := by
  obtain ⟨o, ho⟩ := t.there
  have s1 : Same S (upd S a o) := Same.upd n
  have s2 : Same (upd S a o) H := fun b x e => by
    by_cases q : b = a
    · subst q; rw [upd_same] at e; exact ho.trans e
    · rw [upd_ne q] at e; exact s b x e
  have e2 : upd S a o a = H a := by rw [upd_same]; exact ho.symm
  cases d with
  | lst ds => obtain ⟨vs, e, l, r⟩ := t; exact ⟨_, s1, s2, ⟨a, vs, rfl, e2.trans e, l, r.mono s1⟩, fun b q => upd_ne q⟩
  | dicK ds => obtain ⟨vs, e, r⟩ := t; exact ⟨_, s1, s2, ⟨a, vs, rfl, e2.trans e, r.mono s1⟩, fun b q => upd_ne q⟩
  | dicT ds => obtain ⟨vs, e, r⟩ := t; exact ⟨_, s1, s2, ⟨a, vs, rfl, e2.trans e, r.mono s1⟩, fun b q => upd_ne q⟩
  | slf b c ds => obtain ⟨C, dx, vs, e, g, r, q⟩ := t; exact ⟨_, s1, s2, ⟨a, C, dx, vs, rfl, g, e2.trans e, r.mono s1, q⟩, fun b q => upd_ne q⟩
  | _ => exact t.elim
/-- whatever the mode is, it may be read -/
theorem RepM.rd (hs : Same H0 H) (r : RepM K Γ H0 S H m d v) : RepM K Γ H0 S H .rd d v := by
  cases m with
  | sh => exact .inl r
  | bo =>
    rcases r with r | ⟨a, ev, t⟩
    · exact .inl r
    · exact .inr ⟨a, ev, t.mono (Same.refl _) fun _ q => hs _ _ q⟩
  | rd => exact r
  | ow => obtain ⟨a, ev, n, t⟩ := r; exact .inr ⟨a, ev, t⟩
end

/-! ### environments -/
abbrev Env := List (Option D)
abbrev Ev := Env → Option D
def md (M : List Mode) (i : Nat) : Mode := M.getD i .sh
structure Wd (K : PySem.W.Frag) (Γ : CM) (S0 H0 S H : Hp) (σ : St) (M : List Mode) (δ : Env) : Prop where
  ext : Ext S0 H0 S H
  len : σ.length = δ.length
  slot : ∀ i d, δ[i]? = some (some d) → ∃ v, σ[i]? = some (some v) ∧ RepM K Γ H0 S H (md M i) d v
  own : ∀ i d a, δ[i]? = some (some d) → md M i = .ow → σ[i]? = some (some (.ref a)) → H0 a = none
  uniq : ∀ i j di dj a, δ[i]? = some (some di) → δ[j]? = some (some dj) → md M i = .ow → md M j = .ow → σ[i]? = some (some (.ref a)) → σ[j]? = some (some (.ref a)) → i = j
  nord : ∀ i, md M i ≠ .rd
section
variable {K : PySem.W.Frag} {Γ : CM} {S0 H0 S H S' H' : Hp} {σ : St} {M : List Mode} {δ : Env}
theorem Wd.mono (w : Wd K Γ S0 H0 S H σ M δ) (e : Ext S H S' H') : Wd K Γ S0 H0 S' H' σ M δ :=
  ⟨w.ext.trans e, w.len, fun i d h => let ⟨v, q, r⟩ := w.slot i d h; ⟨v, q, r.mono e⟩, w.own, w.uniq, w.nord⟩
theorem Wd.sH (w : Wd K Γ S0 H0 S H σ M δ) : Same S H := w.ext.sh
theorem Wd.h0 (w : Wd K Γ S0 H0 S H σ M δ) : Same H0 H := w.ext.hh
theorem getElem?_set {α : Type} {l : List α} {i j : Nat} {x y : α} (h : (l.set i x)[j]? = some y) : (i = j ∧ x = y ∧ i < l.length) ∨ (i ≠ j ∧ l[j]? = some y) := by
  by_cases q : i = j
  · subst q
    by_cases p : i < l.length
    · rw [List.getElem?_set_self p] at h
      exact .inl ⟨rfl, Option.some.inj h, p⟩
    · rw [List.getElem?_eq_none (by rw [List.length_set]; omega)] at h
      cases h
  · rw [List.getElem?_set_ne q] at h
    exact .inr ⟨q, h⟩
theorem md_set {M : List Mode} {i j : Nat} {m : Mode} (h : i < M.length) : md (M.set i m) j = if i = j then m else md M j := by
  unfold md
  rw [List.getD_eq_getElem?_getD, List.getD_eq_getElem?_getD]
  by_cases q : i = j
  · subst q
    rw [List.getElem?_set_self h, if_pos rfl]
    rfl
  · rw [List.getElem?_set_ne q, if_neg q]
/-- a slot is stored -/
theorem Wd.store {i : Nat} {m : Mode} {d : D} {v : V} (w : Wd K Γ S0 H0 S H σ M δ) (hi : i < M.length) (hm : m = .sh ∨ m = .bo ∨ m = .ow) (r : RepM K Γ H0 S H m d v)
    (f0 : m = .ow → ∀ a, v = .ref a → H0 a = none) (f1 : m = .ow → ∀ a, v = .ref a → ∀ j dj, δ[j]? = some (some dj) → md M j = .ow → σ[j]? ≠ some (some (.ref a))) :
    Wd K Γ S0 H0 S H (σ.set i (some v)) (M.set i m) (δ.set i (some d)) := by
  have key : ∀ j dj, (δ.set i (some d))[j]? = some (some dj) → (i = j ∧ d = dj ∧ i < δ.length) ∨ (i ≠ j ∧ δ[j]? = some (some dj)) := fun j dj h => by
    rcases getElem?_set h with ⟨a, b, c⟩ | h
    · exact .inl ⟨a, Option.some.inj b, c⟩
    · exact .inr h
  refine ⟨w.ext, by rw [List.length_set, List.length_set, w.len], fun j dj h => ?_, fun j dj a h hm2 hs => ?_, fun j k dj dk a h1 h2 m1 m2 s1 s2 => ?_, fun j z => ?_⟩
  · rw [md_set hi]
    rcases key j dj h with ⟨e, e2, l⟩ | ⟨ne, h⟩
    · subst e e2
      rw [if_pos rfl]
      exact ⟨v, List.getElem?_set_self (by rw [w.len]; exact l), r⟩
    · rw [if_neg ne, List.getElem?_set_ne ne]
      exact w.slot j dj h
  · rw [md_set hi] at hm2
    rcases key j dj h with ⟨e, e2, l⟩ | ⟨ne, h⟩
    · subst e e2
      rw [if_pos rfl] at hm2
      rw [List.getElem?_set_self (by rw [w.len]; exact l)] at hs
      exact f0 hm2 a (Option.some.inj (Option.some.inj hs))
    · rw [if_neg ne] at hm2
      rw [List.getElem?_set_ne ne] at hs
      exact w.own j dj a h hm2 hs
  · rw [md_set hi] at m1 m2
    rcases key j dj h1 with ⟨e, e2, l⟩ | ⟨ne, h1⟩
    · subst e e2
      rcases key k dk h2 with ⟨e, e2, l2⟩ | ⟨ne, h2⟩
      · exact e
      · rw [if_pos rfl] at m1
        rw [if_neg ne] at m2
        rw [List.getElem?_set_self (by rw [w.len]; exact l)] at s1
        rw [List.getElem?_set_ne ne] at s2
        exact absurd s2 (f1 m1 a (Option.some.inj (Option.some.inj s1)) k dk h2 m2)
    · rcases key k dk h2 with ⟨e, e2, l2⟩ | ⟨ne2, h2⟩
      · subst e e2
        rw [if_pos rfl] at m2
        rw [if_neg ne] at m1
        rw [List.getElem?_set_self (by rw [w.len]; exact l2)] at s2
        rw [List.getElem?_set_ne ne] at s1
        exact absurd s1 (f1 m2 a (Option.some.inj (Option.some.inj s2)) j dj h1 m1)
      · rw [if_neg ne] at m1
        rw [if_neg ne2] at m2
        rw [List.getElem?_set_ne ne] at s1
        rw [List.getElem?_set_ne ne2] at s2
        exact w.uniq j k dj dk a h1 h2 m1 m2 s1 s2
  · rw [md_set hi] at z
    by_cases q : i = j
    · rw [if_pos q] at z
      rcases hm with e | e | e <;> rw [e] at z <;> cases z
    · rw [if_neg q] at z
      exact w.nord j z
/-- an owned slot becomes shared -/
theorem Wd.freeze {i : Nat} (w : Wd K Γ S0 H0 S H σ M δ) (hi : i < M.length) (hm : md M i = .ow) : ∃ S', Same S S' ∧ Wd K Γ S0 H0 S' H σ (M.set i .sh) δ := by
  have nr : ∀ j, md (M.set i .sh) j ≠ .rd := fun j z => by
    rw [md_set hi] at z
    by_cases q : i = j
    · rw [if_pos q] at z; cases z
    · rw [if_neg q] at z; exact w.nord j z
  have other : ∀ j dj, i ≠ j → δ[j]? = some (some dj) → md (M.set i .sh) j = md M j := fun j dj ne _ => by rw [md_set hi, if_neg ne]
  cases q : δ[i]? with
  | none =>
    refine ⟨S, Same.refl _, w.ext, w.len, fun j dj h => ?_, fun j dj a h m s => ?_, fun j k dj dk a h1 h2 m1 m2 s1 s2 => ?_, nr⟩
    · have ne : i ≠ j := fun e => by subst e; rw [q] at h; cases h
      rw [other j dj ne h]; exact w.slot j dj h
    · have ne : i ≠ j := fun e => by subst e; rw [q] at h; cases h
      rw [other j dj ne h] at m; exact w.own j dj a h m s
    · have ne : i ≠ j := fun e => by subst e; rw [q] at h1; cases h1
      have ne2 : i ≠ k := fun e => by subst e; rw [q] at h2; cases h2
      rw [other j dj ne h1] at m1; rw [other k dk ne2 h2] at m2
      exact w.uniq j k dj dk a h1 h2 m1 m2 s1 s2
  | some od =>
    cases od with
    | none =>
      refine ⟨S, Same.refl _, w.ext, w.len, fun j dj h => ?_, fun j dj a h m s => ?_, fun j k dj dk a h1 h2 m1 m2 s1 s2 => ?_, nr⟩
      · have ne : i ≠ j := fun e => by subst e; rw [q] at h; cases h
        rw [other j dj ne h]; exact w.slot j dj h
      · have ne : i ≠ j := fun e => by subst e; rw [q] at h; cases h
        rw [other j dj ne h] at m; exact w.own j dj a h m s
      · have ne : i ≠ j := fun e => by subst e; rw [q] at h1; cases h1
        have ne2 : i ≠ k := fun e => by subst e; rw [q] at h2; cases h2
        rw [other j dj ne h1] at m1; rw [other k dk ne2 h2] at m2
        exact w.uniq j k dj dk a h1 h2 m1 m2 s1 s2
    | some d =>
      obtain ⟨v, hv, r⟩ := w.slot i d q
      rw [hm] at r
      obtain ⟨a, e, n, t⟩ := r
      subst e
      have h0 := w.own i d a q hm hv
      obtain ⟨S', ss, sh, r, off⟩ := t.share w.sH n
      have ext : Ext S0 H0 S' H := ⟨w.ext.ss.trans ss, w.ext.hh, sh, fun b o hb tt nb => by
        have nba : b ≠ a := fun e => by rw [e, h0] at hb; cases hb
        rw [off b nba]; exact w.ext.fr b o hb tt nb⟩
      refine ⟨S', ss, ext, w.len, fun j dj h => ?_, fun j dj b h m s => ?_, fun j k dj dk b h1 h2 m1 m2 s1 s2 => ?_, nr⟩
      · by_cases ne : i = j
        · subst ne
          rw [q] at h
          have e : d = dj := Option.some.inj (Option.some.inj h)
          subst e
          rw [md_set hi, if_pos rfl]
          exact ⟨_, hv, r⟩
        · rw [other j dj ne h]
          obtain ⟨u, hu, ru⟩ := w.slot j dj h
          refine ⟨u, hu, ?_⟩
          cases em : md M j with
          | sh => rw [em] at ru; exact Rep.mono ss ru
          | bo =>
            rw [em] at ru
            rcases ru with ru | ⟨b, eb, tb⟩
            · exact .inl (Rep.mono ss ru)
            · exact .inr ⟨b, eb, tb.mono ss fun _ z => z⟩
          | rd =>
            rw [em] at ru
            rcases ru with ru | ⟨b, eb, tb⟩
            · exact .inl (Rep.mono ss ru)
            · exact .inr ⟨b, eb, tb.mono ss fun _ z => z⟩
          | ow =>
            rw [em] at ru
            obtain ⟨b, eb, nb, tb⟩ := ru
            subst eb
            have nba : b ≠ a := fun e => by
              subst e
              exact ne (w.uniq i j d dj b q h hm em hv hu)
            exact ⟨b, rfl, (off b nba).trans nb, tb.mono ss fun _ z => z⟩
      · have ne : i ≠ j := fun e => by subst e; rw [md_set hi, if_pos rfl] at m; cases m
        rw [other j dj ne h] at m; exact w.own j dj b h m s
      · have ne : i ≠ j := fun e => by subst e; rw [md_set hi, if_pos rfl] at m1; cases m1
        have ne2 : i ≠ k := fun e => by subst e; rw [md_set hi, if_pos rfl] at m2; cases m2
        rw [other j dj ne h1] at m1; rw [other k dk ne2 h2] at m2
        exact w.uniq j k dj dk b h1 h2 m1 m2 s1 s2
/-- an owned slot's datum is changed in its place -/
theorem Wd.write {i : Nat} {a : Addr} {d d' : D} {o : HO} (w : Wd K Γ S0 H0 S H σ M δ) (hm : md M i = .ow) (hd : δ[i]? = some (some d)) (hs : σ[i]? = some (some (.ref a)))
    (t : TopAt K Γ S (upd H a o) a d') : Wd K Γ S0 H0 S (upd H a o) σ M (δ.set i (some d')) := by
  have h0 := w.own i d a hd hm hs
  obtain ⟨v, hv, r⟩ := w.slot i d hd
  rw [hm] at r
  obtain ⟨b, e, n, _⟩ := r
  have e2 : V.ref b = V.ref a := e ▸ Option.some.inj (Option.some.inj (hv.symm.trans hs))
  obtain rfl : b = a := V.ref.inj e2
  have sH : Same S (upd H b o) := fun c x e => by
    have ne : c ≠ b := fun q => by rw [q, n] at e; cases e
    rw [upd_ne ne]; exact w.sH c x e
  have li : i < δ.length := (List.getElem?_eq_some_iff.mp hd).1
  have was : ∀ j dj, (δ.set i (some d'))[j]? = some (some dj) → ∃ dk, δ[j]? = some (some dk) ∧ (i = j → d' = dj) ∧ (i ≠ j → dk = dj) := fun j dj h => by
    rcases getElem?_set h with ⟨e1, e3, _⟩ | ⟨ne, h⟩
    · subst e1; exact ⟨d, hd, fun _ => Option.some.inj e3, fun z => (z rfl).elim⟩
    · exact ⟨dj, h, fun z => (ne z).elim, fun _ => rfl⟩
  refine ⟨⟨w.ext.ss, fun c x e => ?_, sH, w.ext.fr⟩, by rw [List.length_set, w.len], fun j dj h => ?_, fun j dj c h m s => ?_, fun j k dj dk c h1 h2 m1 m2 s1 s2 => ?_, w.nord⟩
  · have ne : c ≠ b := fun q => by rw [q, h0] at e; cases e
    rw [upd_ne ne]; exact w.ext.hh c x e
  · obtain ⟨dk, hk, e1, e3⟩ := was j dj h
    by_cases ne : i = j
    · have e4 := e1 ne
      subst ne e4
      rw [hm]
      exact ⟨_, hs, b, rfl, n, t⟩
    · have e4 := e3 ne
      subst e4
      obtain ⟨u, hu, ru⟩ := w.slot j dk hk
      refine ⟨u, hu, ?_⟩
      cases em : md M j with
      | sh => rw [em] at ru; exact ru
      | bo => rw [em] at ru; exact ru
      | rd =>
        exact (w.nord j em).elim
      | ow =>
        rw [em] at ru
        obtain ⟨c, ec, nc, tc⟩ := ru
        subst ec
        have ncb : c ≠ b := fun e => by
          subst e
          exact ne (w.uniq i j d dk c hd hk hm em hs hu)
        exact ⟨c, rfl, nc, tc.mono (Same.refl _) fun _ z => by rw [upd_ne ncb]; exact z⟩
  · obtain ⟨dk, hk, _⟩ := was j dj h
    exact w.own j dk c hk m s
  · obtain ⟨d1, hk1, _⟩ := was j dj h1
    obtain ⟨d2, hk2, _⟩ := was k dk h2
    exact w.uniq j k d1 d2 c hk1 hk2 m1 m2 s1 s2
end
end Dl
/-! the judgements over data, and the rules for expressions. -/
namespace Dl
open PySem L2

/-! ### data, compared -/
mutual
def D.py : D → PyData
  | .non => .none
  | .bl b => .bool b
  | .int i => .int i
  | .str x => .str x
  | .scr ns => .list (ns.map PyData.int)
  | .lst ds => .list (D.pyL ds)
  | .tup ds => .tuple (D.pyL ds)
  | .ktup ds => .tuple (D.pyL ds)
  | .ty _ => .dict []
  | .dicK _ => .dict []
  | .dicT _ => .dict []
  | .ins _ _ => .dict []
  | .slf _ _ _ => .dict []
  | .exc _ _ => .dict []
  | .cls _ => .dict []
def D.pyL : List D → List PyData
  | [] => []
  | d :: ds => d.py :: D.pyL ds
end
theorem D.pyL_map : ∀ ds : List D, D.pyL ds = ds.map D.py
  | [] => rfl
  | d :: ds => by rw [List.map_cons, ← D.pyL_map ds]; rfl
def D.eqv (a b : D) : Bool := PyData.eqv a.py b.py
def cmpOk (a b : D) : Bool := a.py.plain && b.py.plain && decide (min a.py.depth b.py.depth ≤ 60)
def opEq (a b : D) : Option D := if cmpOk a b then some (.bl (D.eqv a b)) else none
def opNe (a b : D) : Option D := if cmpOk a b then some (.bl (!D.eqv a b)) else none
section
variable {K : PySem.W.Frag} {Γ : CM} {H0 S H : Hp} {d : D} {v : V} {m : Mode}
/-- whatever the mode is: over the whole heap the value bears the datum -/
theorem RepM.full (sh : Same S H) (h0 : Same H0 H) (r : RepM K Γ H0 S H m d v) : Rep K Γ H d v := by
  have top : ∀ {a H1}, Same H1 H → TopAt K Γ S H1 a d → Rep K Γ H d (.ref a) := fun {a H1} s1 t => by
    cases d with
    | lst ds => obtain ⟨vs, e, l, r⟩ := t; exact ⟨a, vs, rfl, s1 _ _ e, l, r.mono sh⟩
    | dicK ds => obtain ⟨vs, e, r⟩ := t; exact ⟨a, vs, rfl, s1 _ _ e, r.mono sh⟩
    | dicT ds => obtain ⟨vs, e, r⟩ := t; exact ⟨a, vs, rfl, s1 _ _ e, r.mono sh⟩
    | slf b c ds => obtain ⟨C, dx, vs, e, g, r, q⟩ := t; exact ⟨a, C, dx, vs, rfl, g, s1 _ _ e, r.mono sh, q⟩
    | _ => exact t.elim
  cases m with
  | sh => exact Rep.mono sh r
  | bo =>
    rcases r with r | ⟨a, ev, t⟩
    · exact Rep.mono sh r
    · subst ev; exact top h0 t
  | rd =>
    rcases r with r | ⟨a, ev, t⟩
    · exact Rep.mono sh r
    · subst ev; exact top (Same.refl _) t
  | ow => obtain ⟨a, ev, n, t⟩ := r; subst ev; exact top (Same.refl _) t
/-- a list, in any mode: its items are shared -/
theorem RepM.lst {ds : List D} (sh : Same S H) (h0 : Same H0 H) (r : RepM K Γ H0 S H m (.lst ds) v) : ∃ a vs, v = .ref a ∧ H a = some (.lst vs) ∧ ds.length ≤ sizeLine ∧ RepL K Γ S ds vs := by
  rcases r.rd h0 with ⟨a, vs, e, h, l, q⟩ | ⟨a, e, vs, h, l, q⟩
  · exact ⟨a, vs, e, sh _ _ h, l, q⟩
  · exact ⟨a, vs, e, h, l, q⟩
theorem RepM.tup {ds : List D} (h0 : Same H0 H) (r : RepM K Γ H0 S H m (.tup ds) v) : ∃ a vs, v = .ref a ∧ S a = some (.tup vs) ∧ ds.length ≤ sizeLine ∧ RepL K Γ S ds vs := by
  rcases r.rd h0 with ⟨a, vs, e, h, l, q⟩ | ⟨a, e, t⟩
  · exact ⟨a, vs, e, h, l, q⟩
  · exact t.elim
theorem RepM.ktup {ds : List D} (h0 : Same H0 H) (r : RepM K Γ H0 S H m (.ktup ds) v) : ∃ a vs, v = .ref a ∧ SqT K S a vs ∧ ds.length ≤ sizeLine ∧ RepL K Γ S ds vs := by
  rcases r.rd h0 with ⟨a, vs, e, h, l, q⟩ | ⟨a, e, t⟩
  · exact ⟨a, vs, e, h, l, q⟩
  · exact t.elim
theorem RepM.dicK {ds : List (Key × D)} (sh : Same S H) (h0 : Same H0 H) (r : RepM K Γ H0 S H m (.dicK ds) v) : ∃ a vs, v = .ref a ∧ H a = some (.dK vs) ∧ RepK K Γ S ds vs := by
  rcases r.rd h0 with ⟨a, vs, e, h, q⟩ | ⟨a, e, vs, h, q⟩
  · exact ⟨a, vs, e, sh _ _ h, q⟩
  · exact ⟨a, vs, e, h, q⟩
theorem RepM.dicT {ds : List (List Key × D)} (sh : Same S H) (h0 : Same H0 H) (r : RepM K Γ H0 S H m (.dicT ds) v) : ∃ a vs, v = .ref a ∧ H a = some (.dT vs) ∧ RepT K Γ S ds vs := by
  rcases r.rd h0 with ⟨a, vs, e, h, q⟩ | ⟨a, e, vs, h, q⟩
  · exact ⟨a, vs, e, sh _ _ h, q⟩
  · exact ⟨a, vs, e, h, q⟩
theorem RepM.ins {c : Str} {ds : List (Str × D)} (h0 : Same H0 H) (r : RepM K Γ H0 S H m (.ins c ds) v) : ∃ a C dx vs, v = .ref a ∧ iM Γ c = some C ∧ S a = some (.ins C dx vs) ∧ RepF K Γ S ds vs := by
  rcases r.rd h0 with ⟨a, C, dx, vs, e, g, h, q⟩ | ⟨a, e, t⟩
  · exact ⟨a, C, dx, vs, e, g, h, q⟩
  · exact t.elim
/-- what is no list and no dict is shared in any mode -/
theorem RepM.flat (h0 : Same H0 H) (r : RepM K Γ H0 S H m d v) (f : ∀ H1 a, ¬ TopAt K Γ S H1 a d) : Rep K Γ S d v := by
  rcases r.rd h0 with r | ⟨a, e, t⟩
  · exact r
  · exact (f _ _ t).elim
theorem RepM.int {i : Int} (h0 : Same H0 H) (r : RepM K Γ H0 S H m (.int i) v) : v = .int i := r.flat h0 fun _ _ t => t
theorem RepM.bl {i : Bool} (h0 : Same H0 H) (r : RepM K Γ H0 S H m (.bl i) v) : v = .bl i := r.flat h0 fun _ _ t => t
theorem RepM.non (h0 : Same H0 H) (r : RepM K Γ H0 S H m .non v) : v = .non := r.flat h0 fun _ _ t => t
theorem RepM.str {x : Str} (h0 : Same H0 H) (r : RepM K Γ H0 S H m (.str x) v) : v = .str x ∧ x.length ≤ sizeLine := r.flat h0 fun _ _ t => t
theorem RepM.scr {ns : List Int} (h0 : Same H0 H) (r : RepM K Γ H0 S H m (.scr ns) v) : ∃ a, v = .ref a ∧ SqL K S a (ns.map V.int) ∧ ns.length ≤ 63 := r.flat h0 fun _ _ t => t
end

section
variable {X : Cx} {Γ : CM} {pins : List (Addr × Obj)} {σ : St} {H : Hp} {s : Shared}
theorem reads_ints {h : Heap} : ∀ {ns : List Int} {us : List Value}, Vals (ns.map V.int) us → ∃ as, ReadsAll h us (ns.map PyData.int) as
  | [], us, r => by cases r; exact ⟨_, .nil⟩
  | n :: ns, us, r => by
    cases r with
    | cons p q =>
      obtain ⟨t, rfl⟩ := p
      obtain ⟨as, h⟩ := reads_ints q
      exact ⟨_, .cons (.int _ _) h⟩
mutual
theorem Rep.reads (I : Inv X pins σ H s) : ∀ (d : D) (v : V) (u : Value), Rep X.K Γ H d v → RelV v u → d.py.plain = true → ∃ as, Reads s.heap u d.py as
  | .non, _, _, h, r, _ => by cases (show _ = V.non from h); cases r; exact ⟨_, Reads.none⟩
  | .bl b, _, _, h, r, _ => by cases (show _ = V.bl b from h); cases r; exact ⟨_, Reads.bool b⟩
  | .int i, _, _, h, r, _ => by cases (show _ = V.int i from h); obtain ⟨t, rfl⟩ := r; exact ⟨_, Reads.int i t⟩
  | .str x, _, _, h, r, _ => by
    obtain ⟨h, _⟩ := h
    subst h
    obtain ⟨t, rfl⟩ := r
    exact ⟨_, Reads.str x t⟩
  | .scr ns, _, _, h, r, _ => by
    obtain ⟨a, e, hs, _⟩ := h
    subst e
    cases r
    obtain ⟨its, rv, ⟨o, n, ho, hc, _, hd⟩, _⟩ := I.list hs
    obtain ⟨as, hr⟩ := reads_ints (h := s.heap) rv
    exact ⟨_, Reads.list ho hc hd hr⟩
  | .lst ds, _, _, h, r, p => by
    obtain ⟨a, vs, e, hs, _, ha⟩ := h
    subst e
    cases r
    obtain ⟨its, rv, ⟨o, n, ho, hc, _, hd⟩, _⟩ := I.list (SqL.of hs)
    obtain ⟨as, hr⟩ := Rep.readsAll I ds _ its ha rv p
    exact ⟨_, Reads.list ho hc hd hr⟩
  | .tup ds, _, _, h, r, p => by
    obtain ⟨a, vs, e, hs, _, ha⟩ := h
    subst e
    cases r
    obtain ⟨its, rv, ⟨o, ho, hc, n, hd⟩, _⟩ := I.tuple (SqT.of hs)
    obtain ⟨as, hr⟩ := Rep.readsAll I ds _ its ha rv p
    exact ⟨_, Reads.tuple ho hc hd hr⟩
  | .ktup ds, _, _, h, r, p => by
    obtain ⟨a, vs, e, hs, _, ha⟩ := h
    subst e
    cases r
    obtain ⟨its, rv, ⟨o, ho, hc, n, hd⟩, _⟩ := I.tuple hs
    obtain ⟨as, hr⟩ := Rep.readsAll I ds _ its ha rv p
    exact ⟨_, Reads.tuple ho hc hd hr⟩
  | .ty _, _, _, _, _, p => by cases p
  | .dicK _, _, _, _, _, p => by cases p
  | .dicT _, _, _, _, _, p => by cases p
  | .ins _ _, _, _, _, _, p => by cases p
  | .slf _ _ _, _, _, _, _, p => by cases p
  | .exc _ _, _, _, _, _, p => by cases p
  | .cls _, _, _, _, _, p => by cases p
theorem Rep.readsAll (I : Inv X pins σ H s) : ∀ (ds : List D) (vs : List V) (us : List Value), RepL X.K Γ H ds vs → Vals vs us → PyData.plainAll (D.pyL ds) = true → ∃ as, ReadsAll s.heap us (D.pyL ds) as
  | [], _, _, h, r, _ => by cases (show _ = [] from h); cases r; exact ⟨_, .nil⟩
  | d :: ds, _, _, h, r, p => by
    obtain ⟨v, ws, e, h1, h2⟩ := h
    subst e
    have p : (d.py.plain && PyData.plainAll (D.pyL ds)) = true := p
    rw [Bool.and_eq_true] at p
    cases r with
    | cons r1 r2 =>
      obtain ⟨as, q1⟩ := Rep.reads I d _ _ h1 r1 p.1
      obtain ⟨bs, q2⟩ := Rep.readsAll I ds _ _ h2 r2 p.2
      exact ⟨_, ReadsAll.cons q1 q2⟩
end
end

/-! ### judgements -/
section
variable (K : PySem.W.Frag) (Γ : CM)
def Kont (H0 S H : Hp) (m : Mode) (d : D) (Q : VK) : Prop :=
  ∀ v S' H', Ext S H S' H' → RepM K Γ H0 S' H' m d v → (m = .ow → ∀ a, v = .ref a → H a = none) → Q v H'
def SndE (M : List Mode) (t : TE) (f : Ev) (m : Mode) : Prop :=
  ∀ S0 H0 S H σ δ Q d, Wd K Γ S0 H0 S H σ M δ → f δ = some d → Kont K Γ H0 S H m d Q → t σ H Q
def SndT (M : List Mode) (t : TT) (f : Env → Option Bool) : Prop :=
  ∀ S0 H0 S H σ δ Q b, Wd K Γ S0 H0 S H σ M δ → f δ = some b → (∀ S' H', Ext S H S' H' → Q b H') → t σ H Q
def RepMs (H0 S H : Hp) : List Mode → List D → List V → Prop
  | [], ds, vs => ds = [] ∧ vs = []
  | m :: ms, ds, vs => ∃ d ds' v vs', ds = d :: ds' ∧ vs = v :: vs' ∧ RepM K Γ H0 S H m d v ∧ RepMs H0 S H ms ds' vs'
def SndA (M : List Mode) (t : TA) (f : Env → Option (List D)) (ms : List Mode) : Prop :=
  ∀ S0 H0 S H σ δ Q ds, Wd K Γ S0 H0 S H σ M δ → f δ = some ds → (∀ vs S' H', Ext S H S' H' → RepMs K Γ H0 S' H' ms ds vs → Q vs H') → t σ H Q
end
structure DE (Γ : CM) (X : Cx) (M : List Mode) (e : Expr) (t : TE) (f : Ev) (m : Mode) : Prop where
  pe : PE X e t
  snd : SndE X.K Γ M t f m
structure DT (Γ : CM) (X : Cx) (M : List Mode) (e : Expr) (t : TT) (f : Env → Option Bool) : Prop where
  pt : PT X e t
  snd : SndT X.K Γ M t f
structure DW (Γ : CM) (X : Cx) (M : List Mode) (e : Expr) (t : TT) (f : Env → Option Bool) : Prop where
  pw : PW X e t
  snd : SndT X.K Γ M t f
structure DA (Γ : CM) (X : Cx) (M : List Mode) (es : List Expr) (t : TA) (f : Env → Option (List D)) (ms : List Mode) : Prop where
  pa : PA X es t
  snd : SndA X.K Γ M t f ms
/-- an operation by values -/
def SndR2 (K : PySem.W.Frag) (Γ : CM) (r : R2) (op : D → D → Option D) (m : Mode) : Prop :=
  ∀ H0 S H ma mb a b d x y Q, Same S H → Same H0 H → RepM K Γ H0 S H ma a x → RepM K Γ H0 S H mb b y → op a b = some d → Kont K Γ H0 S H m d Q → r x y H Q
structure OpD (Γ : CM) (X : Cx) (f : Value → Value → Sem Value) (r : R2) (o : D → D → Option D) (m : Mode) : Prop where
  op : OpR X f r
  snd : SndR2 X.K Γ r o m

section
variable {K : PySem.W.Frag} {Γ : CM} {H0 S H S' H' : Hp} {M : List Mode} {t ta tb : TE} {f g : Ev} {m ma mb : Mode} {d : D} {Q : VK}
/-- the end without new objects -/
theorem Kont.same (k : Kont K Γ H0 S H m d Q) (s : Same S H) {v : V} (r : RepM K Γ H0 S H m d v) (hm : m ≠ .ow) : Q v H := k v S H (Ext.refl s) r fun z => (hm z).elim
theorem Kont.flat {v : V} (k : Kont K Γ H0 S H .sh d Q) (s : Same S H) (r : Rep K Γ S d v) : Q v H := k v S H (Ext.refl s) r fun z => by cases z
theorem Kont.ext (k : Kont K Γ H0 S H m d Q) (e : Ext S H S' H') : Kont K Γ H0 S' H' m d Q := fun v S2 H2 e2 r f => k v S2 H2 (e.trans e2) r fun z a ev => e.hh.free (f z a ev)
theorem SndE.bin {S0 : Hp} {σ : St} {δ : Env} (sa : SndE K Γ M ta f ma) (sb : SndE K Γ M tb g mb) (w : Wd K Γ S0 H0 S H σ M δ) {a b : D} (ea : f δ = some a) (eb : g δ = some b) {R : V → V → Hp → Prop}
    (k : ∀ x y S' H', Ext S H S' H' → RepM K Γ H0 S' H' ma a x → RepM K Γ H0 S' H' mb b y → Same H0 H' → R x y H') : ta σ H fun x H1 => tb σ H1 fun y H2 => R x y H2 := by
  refine sa S0 H0 S H σ δ _ a w ea fun x S1 H1 e1 r1 _ => ?_
  refine sb S0 H0 S1 H1 σ δ _ b (w.mono e1) eb fun y S2 H2 e2 r2 _ => ?_
  exact k x y S2 H2 (e1.trans e2) (r1.mono e2) r2 ((w.mono e1).mono e2).h0
/-- a fresh one may be shared; what is shared may be read -/
theorem SndE.share (s : SndE K Γ M t f .ow) : SndE K Γ M t f .sh := fun S0 H0 S H σ δ Q d w ef k => by
  refine s S0 H0 S H σ δ Q d w ef fun v S1 H1 e1 r1 fr => ?_
  obtain ⟨a, ev, n, top⟩ := r1
  obtain ⟨S2, ss, s2, r2, off⟩ := top.share e1.sh n
  have ha := fr rfl a ev
  refine k v S2 H1 ⟨e1.ss.trans ss, e1.hh, s2, fun b o hb tt nb => ?_⟩ (ev ▸ r2) fun z => by cases z
  have nba : b ≠ a := fun e => by rw [e, ha] at hb; cases hb
  rw [off b nba]
  exact e1.fr b o hb tt nb
def okS : Mode → Bool
  | .sh => true
  | .ow => true
  | _ => false
theorem SndE.sh (s : SndE K Γ M t f m) (h : okS m = true) : SndE K Γ M t f .sh := by
  cases m with
  | sh => exact s
  | ow => exact s.share
  | _ => cases h
end

/-! ### names, constants -/
section
variable {X : Cx} {Γ : CM} {M : List Mode} {e a b c : Expr} {t ta tb tc : TE} {f g h : Ev} {m ma mb mc : Mode} {pos : Pos}
def vVar (i : Nat) : Ev := fun δ => (δ[i]?).join
def rdM : Mode → Mode
  | .ow => .rd
  | m => m
theorem snd_var {K : PySem.W.Frag} {i : Nat} (hm : md M i = m) : SndE K Γ M (tVar i) (vVar i) (rdM m) := fun S0 H0 S H σ δ Q d w ef k => by
  have e : δ[i]? = some (some d) := by
    unfold vVar at ef
    cases q : δ[i]? with
    | none => rw [q] at ef; cases ef
    | some o => rw [q] at ef; cases o with
      | none => cases ef
      | some x => cases ef; rfl
  obtain ⟨v, hv, r⟩ := w.slot i d e
  rw [hm] at r
  refine ⟨v, hv, k v S H (Ext.refl w.sH) ?_ fun z => ?_⟩
  · cases m with
    | ow => exact r.rd w.h0
    | _ => exact r
  · cases m <;> cases z
theorem de_var {i : Nat} {x : Str} (hm : md M i = m := by rfl) (hN : X.N[i]? = some x := by rfl) (hv : Vis X.env.scope x := by first | exact Or.inl rfl | exact Or.inr (Or.inl rfl) | exact Or.inr (Or.inr rfl)) (hd : (x == ("__debug__" : Str)) = false := by decide)
    (hcd : (x == ("__classdict__" : Str)) = false := by decide) : DE Γ X M (.Name x pos) (tVar i) (vVar i) (rdM m) := ⟨pe_var hN hv hd hcd, snd_var hm⟩
def vC (d : D) : Ev := fun _ => some d
theorem snd_c {K : PySem.W.Frag} {d : D} {v : V} (h : ∀ S, Rep K Γ S d v) : SndE K Γ M (tC v) (vC d) .sh := fun S0 H0 S H σ δ Q d' w ef k => by
  cases ef
  exact k.flat w.sH (h S)
theorem de_int {i j} : DE Γ X M (.Constant (.int i) j pos) (tC (.int i)) (vC (.int i)) .sh := ⟨pe_int, snd_c fun _ => rfl⟩
theorem de_bl {i j} : DE Γ X M (.Constant (.bool i) j pos) (tC (.bl i)) (vC (.bl i)) .sh := ⟨pe_bl, snd_c fun _ => rfl⟩
theorem de_non {j} : DE Γ X M (.Constant .none j pos) (tC .non) (vC .non) .sh := ⟨pe_non, snd_c fun _ => rfl⟩
theorem de_str {x j} (hx : x.length ≤ sizeLine := by decide +kernel) : DE Γ X M (.Constant (.str x) j pos) (tC (.str x)) (vC (.str x)) .sh := ⟨pe_str, snd_c fun _ => ⟨rfl, hx⟩⟩
/-- a module's constant -/
theorem de_glob {x : Str} {v : V} {u : Value} {d : D} (hg : Gl X x) (hm : X.mg x = some u) (r : RelV v u) (h : ∀ S, Rep X.K Γ S d v) (hd : (x == ("__debug__" : Str)) = false := by decide) : DE Γ X M (.Name x pos) (tC v) (vC d) .sh := ⟨pe_glob hg hm r hd, snd_c h⟩

/-! ### operations -/
def v2 (op : D → D → Option D) (f g : Ev) : Ev := fun δ => (f δ).bind fun a => (g δ).bind fun b => op a b
theorem v2_some {op : D → D → Option D} {δ : Env} {d : D} (h : v2 op f g δ = some d) : ∃ a b, f δ = some a ∧ g δ = some b ∧ op a b = some d := by
  unfold v2 at h
  cases p : f δ with
  | none => rw [p] at h; cases h
  | some a =>
    rw [p] at h
    cases q : g δ with
    | none => rw [Option.bind_some, q] at h; cases h
    | some b => rw [Option.bind_some, q] at h; exact ⟨a, b, rfl, rfl, h⟩
theorem snd_op {K : PySem.W.Frag} {r : R2} {op : D → D → Option D} (o : SndR2 K Γ r op m) (sa : SndE K Γ M ta f ma) (sb : SndE K Γ M tb g mb) : SndE K Γ M (tOp r ta tb) (v2 op f g) m := fun S0 H0 S H σ δ Q d w ef k => by
  obtain ⟨x, y, ea, eb, e⟩ := v2_some ef
  refine sa.bin sb w ea eb fun u v S' H' ex ru rv h0 => ?_
  exact o H0 S' H' ma mb x y d u v Q ex.sh h0 ru rv e (k.ext ex)
theorem de_op {op : Operator} {r : R2} {o : D → D → Option D} (ho : OpD Γ X (binaryOp op) r o m) (ha : DE Γ X M a ta f ma) (hb : DE Γ X M b tb g mb) : DE Γ X M (.BinOp a op b pos) (tOp r ta tb) (v2 o f g) m :=
  ⟨pe_op ho.op ha.pe hb.pe, snd_op ho.snd ha.snd hb.snd⟩
theorem de_cmp {op : CmpOp} {r : R2} {o : D → D → Option D} (ho : OpD Γ X (compareOp op) r o m) (ha : DE Γ X M a ta f ma) (hb : DE Γ X M b tb g mb) (hm : behindInMarks op b = false := by first | exact nomark _ | rfl) : DE Γ X M (.Compare a [op] [b] pos) (tOp r ta tb) (v2 o f g) m :=
  ⟨pe_cmpR ho.op ha.pe hb.pe hm, snd_op ho.snd ha.snd hb.snd⟩
def vTst (f : Ev) : Env → Option Bool := fun δ => (f δ).bind fun d => match d with | .bl b => some b | _ => none
theorem vTst_some {δ : Env} {b : Bool} (h : vTst f δ = some b) : f δ = some (.bl b) := by
  unfold vTst at h
  cases p : f δ with
  | none => rw [p] at h; cases h
  | some d =>
    rw [p] at h
    cases d with
    | bl c => cases h; rfl
    | _ => cases h
theorem snd_tst {K : PySem.W.Frag} (s : SndE K Γ M t f m) : SndT K Γ M (fun σ H Q => t σ H fun x H' => ∃ k, x = .bl k ∧ Q k H') (vTst f) := fun S0 H0 S H σ δ Q b w ef k => by
  refine s S0 H0 S H σ δ _ _ w (vTst_some ef) fun v S' H' e r _ => ?_
  exact ⟨b, r.bl (w.mono e).h0, k S' H' e⟩
theorem dt_cmp {op : CmpOp} {r : R2} {o : D → D → Option D} (ho : OpD Γ X (compareOp op) r o m) (ha : DE Γ X M a ta f ma) (hb : DE Γ X M b tb g mb) (hm : behindInMarks op b = false := by first | exact nomark _ | rfl) :
    DT Γ X M (.Compare a [op] [b] pos) (tTest (tOp r ta tb)) (vTst (v2 o f g)) := ⟨pt_cmpR ho.op ha.pe hb.pe hm, snd_tst (snd_op ho.snd ha.snd hb.snd)⟩
/-- a value that is a truth, as a test -/
theorem dt_val (he : DE Γ X M e t f m) (hs : ∀ whole, isTrue e X.env whole = (do let v ← whole; standAt e.pos; holding [v] (truthy v)) := by intro _; rfl) : DT Γ X M e (tB t) (vTst f) := ⟨pt_val he.pe hs, snd_tst he.snd⟩

/-! a < b < c -/
def vChain (o o' : D → D → Option D) (f g h : Ev) : Ev := fun δ => (f δ).bind fun a => (g δ).bind fun b => (o a b).bind fun d => match d with
  | .bl true => (h δ).bind fun c => o' b c
  | .bl false => some (.bl false)
  | _ => none
theorem snd_chain {K : PySem.W.Frag} {r r' : R2} {o o' : D → D → Option D} (h1 : SndR2 K Γ r o .sh) (h2 : SndR2 K Γ r' o' .sh) (sa : SndE K Γ M ta f ma) (sb : SndE K Γ M tb g mb) (sc : SndE K Γ M tc h mc) :
    SndE K Γ M (tChain r r' ta tb tc) (vChain o o' f g h) .sh := fun S0 H0 S H σ δ Q d w ef k => by
  unfold vChain at ef
  cases p : f δ with
  | none => rw [p] at ef; cases ef
  | some a =>
    cases q : g δ with
    | none => rw [p, q] at ef; cases ef
    | some b =>
      rw [p, q, Option.bind_some, Option.bind_some] at ef
      cases ee : o a b with
      | none => rw [ee] at ef; cases ef
      | some z =>
        rw [ee, Option.bind_some] at ef
        refine sa.bin sb w p q fun x y S1 H1 e1 r1 r2 h0 => ?_
        refine h1 H0 S1 H1 ma mb a b z x y _ e1.sh h0 r1 r2 ee fun v S2 H2 e2 rv _ => ?_
        have w2 := (w.mono e1).mono e2
        cases z with
        | bl c =>
          refine ⟨c, rv, ?_⟩
          cases c with
          | true =>
            rw [if_pos rfl]
            cases u : h δ with
            | none => simp [u] at ef
            | some cc =>
              simp only [u, Option.bind_some] at ef
              refine sc S0 H0 S2 H2 σ δ _ cc w2 u fun v3 S3 H3 e3 r3 _ => ?_
              exact h2 H0 S3 H3 mb mc b cc d y v3 Q e3.sh (w2.mono e3).h0 ((r2.mono e2).mono e3) r3 ef (k.ext ((e1.trans e2).trans e3))
          | false =>
            rw [if_neg Bool.false_ne_true]
            cases ef
            exact (k.ext (e1.trans e2)).flat e2.sh rfl
        | _ => cases ef
theorem de_chain {op op' : CmpOp} {r r' : R2} {o o' : D → D → Option D} (h1 : OpD Γ X (compareOp op) r o .sh) (h2 : OpD Γ X (compareOp op') r' o' .sh) (ha : DE Γ X M a ta f ma) (hb : DE Γ X M b tb g mb) (hc : DE Γ X M c tc h mc)
    (hm : lastMarks [op, op'] [b, c] = false := by with_unfolding_all rfl) : DE Γ X M (.Compare a [op, op'] [b, c] pos) (tChain r r' ta tb tc) (vChain o o' f g h) .sh := ⟨pe_chain h1.op h2.op ha.pe hb.pe hc.pe hm, snd_chain h1.snd h2.snd ha.snd hb.snd hc.snd⟩
theorem dt_chain {op op' : CmpOp} {r r' : R2} {o o' : D → D → Option D} (h1 : OpD Γ X (compareOp op) r o .sh) (h2 : OpD Γ X (compareOp op') r' o' .sh) (ha : DE Γ X M a ta f ma) (hb : DE Γ X M b tb g mb) (hc : DE Γ X M c tc h mc)
    (hm : lastMarks [op, op'] [b, c] = false := by with_unfolding_all rfl) : DT Γ X M (.Compare a [op, op'] [b, c] pos) (tTest (tChain r r' ta tb tc)) (vTst (vChain o o' f g h)) := ⟨pt_chain h1.op h2.op ha.pe hb.pe hc.pe hm, snd_tst (snd_chain h1.snd h2.snd ha.snd hb.snd hc.snd)⟩
end
end Dl
/-! operations by values. -/
namespace Dl
open PySem L2
theorem opR_or {X : Cx} {f : Value → Value → Sem Value} {r r' : R2} (h : OpR X f r) (h' : OpR X f r') : OpR X f (fun x y H Q => r x y H Q ∨ r' x y H Q) := by
  intro pins s σ H x y v u Q I rx ry q
  rcases q with q | q
  · exact h pins s σ H x y v u Q I rx ry q
  · exact h' pins s σ H x y v u Q I rx ry q
section
variable {K : PySem.W.Frag} {Γ : CM} {H0 S H : Hp} {m : Mode} {Q : VK}
/-- a new list; new tuple -/
theorem Kont.newL {ds : List D} {vs : List V} (k : Kont K Γ H0 S H m (.lst ds) Q) (hm : okS m = true) (sh : Same S H) (hl : ds.length ≤ sizeLine) (r : RepL K Γ S ds vs) {p : Addr} (hp : H p = none) : Q (.ref p) (upd H p (.lst vs)) := by
  cases m with
  | sh => exact k _ _ _ (Ext.shared sh hp _) ⟨p, vs, rfl, upd_same, hl, r.mono (Same.upd (Same.none sh hp))⟩ fun z => by cases z
  | ow => exact k _ _ _ (Ext.owned sh hp _) ⟨p, rfl, Same.none sh hp, vs, upd_same, hl, r⟩ fun _ a e => by cases e; exact hp
  | _ => cases hm
theorem Kont.newT {ds : List D} {vs : List V} (k : Kont K Γ H0 S H .sh (.tup ds) Q) (sh : Same S H) (hl : ds.length ≤ sizeLine) (r : RepL K Γ S ds vs) {p : Addr} (hp : H p = none) : Q (.ref p) (upd H p (.tup vs)) :=
  k _ _ _ (Ext.shared sh hp _) ⟨p, vs, rfl, upd_same, hl, r.mono (Same.upd (Same.none sh hp))⟩ fun z => by cases z
theorem Kont.newK {ds : List (Key × D)} {vs : List (Key × V)} (k : Kont K Γ H0 S H m (.dicK ds) Q) (hm : okS m = true) (sh : Same S H) (r : RepK K Γ S ds vs) {p : Addr} (hp : H p = none) : Q (.ref p) (upd H p (.dK vs)) := by
  cases m with
  | sh => exact k _ _ _ (Ext.shared sh hp _) ⟨p, vs, rfl, upd_same, r.mono (Same.upd (Same.none sh hp))⟩ fun z => by cases z
  | ow => exact k _ _ _ (Ext.owned sh hp _) ⟨p, rfl, Same.none sh hp, vs, upd_same, r⟩ fun _ a e => by cases e; exact hp
  | _ => cases hm
theorem Kont.newDT {ds : List (List Key × D)} {vs : List (List Key × V)} (k : Kont K Γ H0 S H m (.dicT ds) Q) (hm : okS m = true) (sh : Same S H) (r : RepT K Γ S ds vs) {p : Addr} (hp : H p = none) : Q (.ref p) (upd H p (.dT vs)) := by
  cases m with
  | sh => exact k _ _ _ (Ext.shared sh hp _) ⟨p, vs, rfl, upd_same, r.mono (Same.upd (Same.none sh hp))⟩ fun z => by cases z
  | ow => exact k _ _ _ (Ext.owned sh hp _) ⟨p, rfl, Same.none sh hp, vs, upd_same, r⟩ fun _ a e => by cases e; exact hp
  | _ => cases hm
theorem Same.sq (h0 : Same S H) {a : Addr} {vs : List V} (h : SqT K S a vs) : SqT K H a vs := Same.sqt h0 h
end

theorem ite_some {α : Type} {c : Prop} [Decidable c] {a d : α} (h : (if c then some a else none) = some d) : c ∧ a = d := by
  by_cases q : c
  · rw [if_pos q] at h; exact ⟨q, Option.some.inj h⟩
  · rw [if_neg q] at h; cases h
/-! ### + -/
def opAdd : D → D → Option D
  | .int i, .int j => some (.int (i + j))
  | .str a, .str b => if a.length + b.length ≤ sizeLine then some (.str (a ++ b)) else none
  | .tup a, .tup b => if a.length + b.length ≤ sizeLine then some (.tup (a ++ b)) else none
  | .lst a, .lst b => if a.length + b.length ≤ sizeLine then some (.lst (a ++ b)) else none
  | _, _ => none
def rAddD (K : PySem.W.Frag) : R2 := fun x y H Q => rI0 (fun i j => .int (i + j)) x y H Q ∨ ((∃ i j, x = .str i ∧ y = .str j ∧ i.length + j.length ≤ sizeLine ∧ Q (.str (i ++ j)) H) ∨ (rCatA K x y H Q ∨ rCat x y H Q))
theorem str_len_append (a b : Str) : (a ++ b).length = a.length + b.length := by
  show (a.cps ++ b.cps).size = _
  rw [Array.size_append]; rfl
theorem od_add {X : Cx} {Γ : CM} : OpD Γ X (binaryOp .Add) (rAddD X.K) opAdd .sh := by
  refine ⟨opR_or op_add (opR_or op_add_str (opR_or op_catA op_cat)), ?_⟩
  intro H0 S H ma mb a b d x y Q sh h0 ra rb e k
  cases a with
  | int i =>
    cases b with
    | int j =>
      cases e
      exact .inl ⟨i, j, ra.int h0, rb.int h0, k.flat sh rfl⟩
    | _ => cases e
  | str i =>
    cases b with
    | str j =>
      obtain ⟨hl, rfl⟩ := ite_some e
      exact .inr (.inl ⟨i, j, (ra.str h0).1, (rb.str h0).1, hl, k.flat sh ⟨rfl, by rw [str_len_append]; exact hl⟩⟩)
    | _ => cases e
  | tup i =>
    cases b with
    | tup j =>
      obtain ⟨hl, rfl⟩ := ite_some e
      obtain ⟨p, vs, rfl, h1, l1, r1⟩ := ra.tup h0
      obtain ⟨q, ws, rfl, h2, l2, r2⟩ := rb.tup h0
      have n1 := r1.length
      have n2 := r2.length
      refine .inr (.inr (.inl ⟨p, q, vs, ws, rfl, rfl, SqT.of (sh _ _ h1), SqT.of (sh _ _ h2), by omega, fun e1 => ?_, fun _ e2 => ?_, fun _ _ t ht => ?_⟩))
      · subst e1
        have : i = [] := List.length_eq_zero_iff.mp n1.symm
        subst this
        exact k.flat sh ⟨q, ws, rfl, h2, by simpa using hl, by simpa using r2⟩
      · subst e2
        have : j = [] := List.length_eq_zero_iff.mp n2.symm
        subst this
        rw [List.append_nil] at k
        exact k.flat sh ⟨p, vs, rfl, h1, l1, r1⟩
      · exact k.newT sh (by rw [List.length_append]; exact hl) (r1.append r2) ht
    | _ => cases e
  | lst i =>
    cases b with
    | lst j =>
      obtain ⟨hl, rfl⟩ := ite_some e
      obtain ⟨p, vs, rfl, h1, l1, r1⟩ := ra.lst sh h0
      obtain ⟨q, ws, rfl, h2, l2, r2⟩ := rb.lst sh h0
      have n1 := r1.length
      have n2 := r2.length
      exact .inr (.inr (.inr ⟨p, q, vs, ws, rfl, rfl, h1, h2, by omega, fun t ht => k.newL rfl sh (by rw [List.length_append]; exact hl) (r1.append r2) ht⟩))
    | _ => cases e
  | _ => cases e
/-- of lists: a list of one's own -/
def opCat : D → D → Option D
  | .lst a, .lst b => if a.length + b.length ≤ sizeLine then some (.lst (a ++ b)) else none
  | _, _ => none
theorem od_cat {X : Cx} {Γ : CM} : OpD Γ X (binaryOp .Add) rCat opCat .ow := by
  refine ⟨op_cat, ?_⟩
  intro H0 S H ma mb a b d x y Q sh h0 ra rb e k
  cases a with
  | lst i =>
    cases b with
    | lst j =>
      obtain ⟨hl, rfl⟩ := ite_some e
      obtain ⟨p, vs, rfl, h1, l1, r1⟩ := ra.lst sh h0
      obtain ⟨q, ws, rfl, h2, l2, r2⟩ := rb.lst sh h0
      have n1 := r1.length
      have n2 := r2.length
      exact ⟨p, q, vs, ws, rfl, rfl, h1, h2, by omega, fun t ht => k.newL rfl sh (by rw [List.length_append]; exact hl) (r1.append r2) ht⟩
    | _ => cases e
  | _ => cases e

/-! ### ints -/
def opI (g : Int → Int → Option D) : D → D → Option D
  | .int i, .int j => g i j
  | _, _ => none
theorem opI_some {g : Int → Int → Option D} {a b d : D} (h : opI g a b = some d) : ∃ i j, a = .int i ∧ b = .int j ∧ g i j = some d := by
  cases a with
  | int i => cases b with
    | int j => exact ⟨i, j, rfl, rfl, h⟩
    | _ => cases h
  | _ => cases h
theorem od_I {X : Cx} {Γ : CM} {f : Value → Value → Sem Value} {C : Int → Int → Prop} {g : Int → Int → V} {o : Int → Int → Option D} (h : OpR X f (rI C g)) (ho : ∀ i j d, o i j = some d → C i j ∧ ∀ S, Rep X.K Γ S d (g i j)) : OpD Γ X f (rI C g) (opI o) .sh :=
  ⟨h, fun H0 S H ma mb a b d x y Q sh h0 ra rb e k => by
    obtain ⟨i, j, rfl, rfl, e⟩ := opI_some e
    obtain ⟨c, r⟩ := ho i j d e
    exact ⟨i, j, ra.int h0, rb.int h0, c, k.flat sh (r S)⟩⟩
theorem od_I0 {X : Cx} {Γ : CM} {f : Value → Value → Sem Value} {g : Int → Int → V} {o : Int → Int → Option D} (h : OpR X f (rI0 g)) (ho : ∀ i j d, o i j = some d → ∀ S, Rep X.K Γ S d (g i j)) : OpD Γ X f (rI0 g) (opI o) .sh :=
  ⟨h, fun H0 S H ma mb a b d x y Q sh h0 ra rb e k => by
    obtain ⟨i, j, rfl, rfl, e⟩ := opI_some e
    exact ⟨i, j, ra.int h0, rb.int h0, k.flat sh (ho i j d e S)⟩⟩
def opSub := opI fun i j => some (.int (i - j))
theorem od_sub {X : Cx} {Γ : CM} : OpD Γ X (binaryOp .Sub) (rI0 fun i j => .int (i - j)) opSub .sh := od_I0 op_sub fun i j d h S => by cases h; rfl
def mulOk (i j : Int) : Bool := (decide (-(2 ^ 64) < i) && decide (i < 2 ^ 64)) || (decide (-(2 ^ 64) < j) && decide (j < 2 ^ 64))
def opMulI := opI fun i j => if mulOk i j then some (.int (i * j)) else none
theorem od_mulI {X : Cx} {Γ : CM} : OpD Γ X (binaryOp .Mult) (rI CMul fun i j => .int (i * j)) opMulI .sh := od_I op_mul fun i j d h => by
  split at h
  · rename_i c
    cases h
    refine ⟨?_, fun S => rfl⟩
    unfold mulOk at c
    simp only [Bool.or_eq_true, Bool.and_eq_true, decide_eq_true_eq] at c
    exact c
  · cases h
def opMod := opI fun i j => if 0 < j then some (.int (i % j)) else none
theorem od_mod {X : Cx} {Γ : CM} : OpD Γ X (binaryOp .Mod) (rI (fun _ j => 0 < j) fun i j => .int (i % j)) opMod .sh := od_I op_mod fun i j d h => by
  split at h
  · rename_i c; cases h; exact ⟨c, fun S => rfl⟩
  · cases h
def opDiv := opI fun i j => if 0 < j ∧ j < 1073741824 then some (.int (i / j)) else none
theorem od_div {X : Cx} {Γ : CM} : OpD Γ X (binaryOp .FloorDiv) (rI CDiv fun i j => .int (i / j)) opDiv .sh := od_I op_fdiv fun i j d h => by
  split at h
  · rename_i c; cases h; exact ⟨c, fun S => rfl⟩
  · cases h
def opPow := opI fun i j => if 0 ≤ j ∧ j ≤ 1000000 ∧ i.natAbs < 2 ^ 64 then some (.int (i ^ j.toNat)) else none
theorem od_pow {X : Cx} {Γ : CM} : OpD Γ X (binaryOp .Pow) (rI CPow fun i j => .int (i ^ j.toNat)) opPow .sh := od_I op_pow fun i j d h => by
  split at h
  · rename_i c; cases h; exact ⟨c, fun S => rfl⟩
  · cases h
def opLt := opI fun i j => some (.bl (decide (i < j)))
def opLe := opI fun i j => some (.bl (decide (i ≤ j)))
def opGt := opI fun i j => some (.bl (decide (j < i)))
def opGe := opI fun i j => some (.bl (decide (j ≤ i)))
theorem od_lt {X : Cx} {Γ : CM} : OpD Γ X (compareOp .Lt) (rI0 fun i j => .bl (decide (i < j))) opLt .sh := od_I0 op_lt fun i j d h S => by cases h; rfl
theorem od_le {X : Cx} {Γ : CM} : OpD Γ X (compareOp .LtE) (rI0 fun i j => .bl (decide (i ≤ j))) opLe .sh := od_I0 op_le fun i j d h S => by cases h; rfl
theorem od_gt {X : Cx} {Γ : CM} : OpD Γ X (compareOp .Gt) (rI0 fun i j => .bl (decide (j < i))) opGt .sh := od_I0 op_gt fun i j d h S => by cases h; rfl
theorem od_ge {X : Cx} {Γ : CM} : OpD Γ X (compareOp .GtE) (rI0 fun i j => .bl (decide (j ≤ i))) opGe .sh := od_I0 op_ge fun i j d h S => by cases h; rfl

/-! ### [..] * n -/
def opMul : D → D → Option D
  | .lst ds, .int k => if k < 2 ^ 62 ∧ -(2 ^ 62) < k ∧ ds.length * k.toNat ≤ sizeLine then some (.lst (List.replicate k.toNat ds).flatten) else none
  | _, _ => none
theorem RepL.rep {K : PySem.W.Frag} {Γ : CM} {S : Hp} {ds : List D} {vs : List V} (r : RepL K Γ S ds vs) : ∀ n, RepL K Γ S (List.replicate n ds).flatten (List.replicate n vs).flatten
  | 0 => rfl
  | n + 1 => by rw [List.replicate_succ, List.replicate_succ, List.flatten_cons, List.flatten_cons]; exact r.append (RepL.rep r n)
theorem flat_len {α : Type} (l : List α) : ∀ n, (List.replicate n l).flatten.length = l.length * n
  | 0 => by simp
  | n + 1 => by rw [List.replicate_succ, List.flatten_cons, List.length_append, flat_len l n, Nat.mul_succ, Nat.add_comm]
theorem od_mulL {X : Cx} {Γ : CM} (hm : okS m = true) : OpD Γ X (binaryOp .Mult) rRep opMul m := by
  refine ⟨op_rep, ?_⟩
  intro H0 S H ma mb a b d x y Q sh h0 ra rb e k
  cases a with
  | lst ds =>
    cases b with
    | int j =>
      obtain ⟨hl, rfl⟩ := ite_some e
      obtain ⟨p, vs, rfl, h1, l1, r1⟩ := ra.lst sh h0
      have n1 := r1.length
      refine ⟨p, j, vs, rfl, rb.int h0, h1, by omega, by omega, by rw [n1]; exact hl.2.2, fun t ht => k.newL hm sh (by rw [flat_len]; exact hl.2.2) (r1.rep _) ht⟩
    | _ => cases e
  | _ => cases e

/-! ### ==, != at any depth -/
def rEqP (K : PySem.W.Frag) (Γ : CM) : R2 := fun x y H Q => ∃ d e, Rep K Γ H d x ∧ Rep K Γ H e y ∧ cmpOk d e = true ∧ Q (.bl (D.eqv d e)) H
def rNeP (K : PySem.W.Frag) (Γ : CM) : R2 := fun x y H Q => ∃ d e, Rep K Γ H d x ∧ Rep K Γ H e y ∧ cmpOk d e = true ∧ Q (.bl (!D.eqv d e)) H
theorem cmpOk_and {d e : D} (h : cmpOk d e = true) : d.py.plain = true ∧ e.py.plain = true ∧ min d.py.depth e.py.depth ≤ 60 := by
  unfold cmpOk at h
  simp only [Bool.and_eq_true, decide_eq_true_eq] at h
  exact ⟨h.1.1, h.1.2, h.2⟩
theorem op_eqP {X : Cx} {Γ : CM} (hu : X.A.units + 64 < cLine) : OpR X (compareOp .Eq) (rEqP X.K Γ) := by
  intro pins s σ H x y v u Q I rx ry ⟨d, e, rd, re, c, q⟩
  obtain ⟨c1, c2, c3⟩ := cmpOk_and c
  obtain ⟨as, r1⟩ := Rep.reads I d x v rd rx c1
  obtain ⟨bs, r2⟩ := Rep.reads I e y u re ry c2
  exact PySem.SeqAt.eq_plain r1 r2 c1 c2 (by omega) ⟨.bl _, H, I, rfl, q⟩
theorem op_neP {X : Cx} {Γ : CM} (hu : X.A.units + 64 < cLine) : OpR X (compareOp .NotEq) (rNeP X.K Γ) := by
  intro pins s σ H x y v u Q I rx ry ⟨d, e, rd, re, c, q⟩
  obtain ⟨c1, c2, c3⟩ := cmpOk_and c
  obtain ⟨as, r1⟩ := Rep.reads I d x v rd rx c1
  obtain ⟨bs, r2⟩ := Rep.reads I e y u re ry c2
  exact PySem.SeqAt.ne_plain r1 r2 c1 c2 (by omega) ⟨.bl _, H, I, rfl, q⟩
theorem od_eq {X : Cx} {Γ : CM} (hu : X.A.units + 64 < cLine) : OpD Γ X (compareOp .Eq) (rEqP X.K Γ) opEq .sh :=
  ⟨op_eqP hu, fun H0 S H ma mb a b d x y Q sh h0 ra rb e k => by
    obtain ⟨c, rfl⟩ := ite_some e
    exact ⟨a, b, ra.full sh h0, rb.full sh h0, c, k.flat sh rfl⟩⟩
theorem od_ne {X : Cx} {Γ : CM} (hu : X.A.units + 64 < cLine) : OpD Γ X (compareOp .NotEq) (rNeP X.K Γ) opNe .sh :=
  ⟨op_neP hu, fun H0 S H ma mb a b d x y Q sh h0 ra rb e k => by
    obtain ⟨c, rfl⟩ := ite_some e
    exact ⟨a, b, ra.full sh h0, rb.full sh h0, c, k.flat sh rfl⟩⟩
/-! ### is None -/
def isNon : D → Bool
  | .non => true
  | _ => false
def opIs : D → D → Option D
  | a, .non => some (.bl (isNon a))
  | _, _ => none
def opNot : D → D → Option D
  | a, .non => some (.bl (!isNon a))
  | _, _ => none
theorem Rep.non_iff {K : PySem.W.Frag} {Γ : CM} {H : Hp} {d : D} {v : V} (r : Rep K Γ H d v) : decide (v = .non) = isNon d := by
  cases d with
  | non => cases (show v = .non from r); rfl
  | bl b => cases (show v = .bl b from r); rfl
  | int b => cases (show v = .int b from r); rfl
  | str b => obtain ⟨rfl, _⟩ := r; rfl
  | ty b => cases (show v = .ty b from r); rfl
  | scr b => obtain ⟨a, rfl, _⟩ := r; rfl
  | lst b => obtain ⟨a, vs, rfl, _⟩ := r; rfl
  | tup b => obtain ⟨a, vs, rfl, _⟩ := r; rfl
  | ktup b => obtain ⟨a, vs, rfl, _⟩ := r; rfl
  | dicK b => obtain ⟨a, vs, rfl, _⟩ := r; rfl
  | dicT b => obtain ⟨a, vs, rfl, _⟩ := r; rfl
  | ins c b => obtain ⟨a, C, dx, vs, rfl, _⟩ := r; rfl
  | slf _ c b => obtain ⟨a, C, dx, vs, rfl, _⟩ := r; rfl
  | exc a c => cases (show v = .ref a from r); rfl
  | cls c => obtain ⟨C, _, rfl⟩ := r; rfl
theorem opIs_some {g : Bool → Bool} {f : D → D → Option D} (hf : ∀ a b d, f a b = some d → b = .non ∧ d = .bl (g (isNon a))) : ∀ a b d, f a b = some d → b = .non ∧ d = .bl (g (isNon a)) := hf
theorem od_is {X : Cx} {Γ : CM} : OpD Γ X (compareOp .Is) (fun x y H Q => y = .non ∧ Q (.bl (decide (x = .non))) H) opIs .sh :=
  ⟨op_isN, fun H0 S H ma mb a b d x y Q sh h0 ra rb e k => by
    cases b with
    | non =>
      cases e
      refine ⟨rb.non h0, ?_⟩
      rw [(ra.full sh h0).non_iff]
      exact k.flat sh rfl
    | _ => cases e⟩
theorem od_isnot {X : Cx} {Γ : CM} : OpD Γ X (compareOp .IsNot) (fun x y H Q => y = .non ∧ Q (.bl (!decide (x = .non))) H) opNot .sh :=
  ⟨op_notN, fun H0 S H ma mb a b d x y Q sh h0 ra rb e k => by
    cases b with
    | non =>
      cases e
      refine ⟨rb.non h0, ?_⟩
      rw [(ra.full sh h0).non_iff]
      exact k.flat sh rfl
    | _ => cases e⟩
/-! ### in -/
def strIn (a b : Str) : Bool := !(Builtin.Str.occurrences b a 0 b.length 1).isEmpty
def keyD : D → Option Key
  | .int i => some (.inl i)
  | .str x => some (.inr x)
  | _ => none
def keysD : D → Option (List Key)
  | .tup ds => ds.mapM keyD
  | _ => none
def lookK : List (Key × D) → Key → Option D
  | [], _ => none
  | (k, d) :: r, j => if k = j then some d else lookK r j
def lookT : List (List Key × D) → List Key → Option D
  | [], _ => none
  | (k, d) :: r, j => if k = j then some d else lookT r j
def opInB : D → D → Option Bool
  | a, .lst ds => if cmpOk (.lst ds) a then some (ds.any fun y => D.eqv y a) else none
  | a, .tup ds => if cmpOk (.tup ds) a then some (ds.any fun y => D.eqv y a) else none
  | a, .ktup ds => if cmpOk (.ktup ds) a then some (ds.any fun y => D.eqv y a) else none
  | .str a, .str b => some (strIn a b)
  | a, .dicK kvs => (keyD a).map fun k => (lookK kvs k).isSome
  | a, .dicT kvs => (keysD a).map fun k => (lookT kvs k).isSome
  | _, _ => none
def opIn (a b : D) : Option D := (opInB a b).map D.bl
def opNin (a b : D) : Option D := (opInB a b).map fun c => D.bl (!c)
def rInP (K : PySem.W.Frag) (Γ : CM) (neg : Bool) : R2 := fun x y H Q => ∃ d e b, Rep K Γ H d x ∧ Rep K Γ H e y ∧ opInB d e = some b ∧ Q (.bl (if neg then !b else b)) H
theorem pyL_any (a : D) : ∀ ds : List D, ((D.pyL ds).any fun y => PyData.eqv y a.py) = ds.any fun y => D.eqv y a
  | [] => rfl
  | d :: ds => by
    show (PyData.eqv d.py a.py || (D.pyL ds).any _) = _
    rw [pyL_any a ds]; rfl
theorem valV_look {K : PySem.W.Frag} {Γ : CM} {S : Hp} : ∀ {kvs : List (Key × D)} {vs : List (Key × V)} (k : Key), RepK K Γ S kvs vs → (match lookK kvs k with | some d => ∃ v, valV vs k = some v ∧ Rep K Γ S d v | none => valV vs k = none)
  | [], vs, k, r => by cases (show vs = [] from r); rfl
  | (j, d) :: kvs, _, k, ⟨v, ws, e, r, t⟩ => by
    subst e
    have ih := valV_look k t
    unfold lookK
    by_cases q : j = k
    · subst q
      rw [if_pos rfl]
      exact ⟨v, by simp [valV], r⟩
    · rw [if_neg q]
      have e : valV ((j, v) :: ws) k = valV ws k := by simp [valV, q]
      rw [e]
      exact ih
theorem valV_lookT {K : PySem.W.Frag} {Γ : CM} {S : Hp} : ∀ {kvs : List (List Key × D)} {vs : List (List Key × V)} (k : List Key), RepT K Γ S kvs vs → (match lookT kvs k with | some d => ∃ v, valV vs k = some v ∧ Rep K Γ S d v | none => valV vs k = none)
  | [], vs, k, r => by cases (show vs = [] from r); rfl
  | (j, d) :: kvs, _, k, ⟨v, ws, e, r, t⟩ => by
    subst e
    have ih := valV_lookT k t
    unfold lookT
    by_cases q : j = k
    · subst q
      rw [if_pos rfl]
      exact ⟨v, by simp [valV], r⟩
    · rw [if_neg q]
      have e : valV ((j, v) :: ws) k = valV ws k := by simp [valV, q]
      rw [e]
      exact ih
end Dl
/-! in, items, slices, tests, displays, fields, len. -/
namespace Dl
open PySem L2
section
variable {K : PySem.W.Frag} {Γ : CM} {S H : Hp}
theorem RepL.keys : ∀ {ds : List D} {vs : List V} {ks : List Key}, RepL K Γ S ds vs → ds.mapM keyD = some ks → vs = ks.map kV
  | [], vs, ks, r, h => by
    cases (show vs = [] from r)
    cases h; rfl
  | d :: ds, _, ks, ⟨v, ws, e, r, t⟩, h => by
    subst e
    rw [List.mapM_cons] at h
    cases q : keyD d with
    | none => rw [q] at h; cases h
    | some k =>
      cases q2 : ds.mapM keyD with
      | none => rw [q, q2] at h; cases h
      | some ks' =>
        rw [q, q2] at h
        cases h
        have e1 : v = kV k := by
          cases d with
          | int i => cases q; exact r
          | str x => cases q; exact r.1
          | _ => cases q
        rw [List.map_cons, ← RepL.keys t q2, e1]
theorem Rep.key {d : D} {v : V} {k : Key} (r : Rep K Γ S d v) (h : keyD d = some k) : v = kV k := by
  cases d with
  | int i => cases h; exact r
  | str x => cases h; exact r.1
  | _ => cases h
theorem Rep.keys {d : D} {v : V} {k : List Key} (r : Rep K Γ S d v) (h : keysD d = some k) : ∃ b, v = .ref b ∧ S b = some (.tup (k.map kV)) := by
  cases d with
  | tup ds =>
    obtain ⟨a, vs, e, hs, _, q⟩ := r
    exact ⟨a, e, by rw [hs, q.keys h]⟩
  | _ => cases h
theorem dget_k {kvs : List (Key × D)} {d : D} {v : V} {k : Key} {a : Addr} {vs : List (Key × V)} (r : Rep K Γ H d v) (h : keyD d = some k) (e : H a = some (.dK vs)) : DGet H a v (valV vs k) := by
  rw [r.key h]; exact DGet.k e
theorem dget_t {d : D} {v : V} {k : List Key} {a : Addr} {vs : List (List Key × V)} (r : Rep K Γ H d v) (h : keysD d = some k) (e : H a = some (.dT vs)) : DGet H a v (valV vs k) := by
  obtain ⟨b, rfl, eb⟩ := r.keys h
  exact DGet.t e eb
theorem look_some {kvs : List (Key × D)} {vs : List (Key × V)} (k : Key) (r : RepK K Γ S kvs vs) : (valV vs k).isSome = (lookK kvs k).isSome := by
  have h := valV_look k r
  cases q : lookK kvs k with
  | none => rw [q] at h; rw [h]; rfl
  | some d => rw [q] at h; obtain ⟨v, e, _⟩ := h; rw [e]; rfl
theorem lookT_some {kvs : List (List Key × D)} {vs : List (List Key × V)} (k : List Key) (r : RepT K Γ S kvs vs) : (valV vs k).isSome = (lookT kvs k).isSome := by
  have h := valV_lookT k r
  cases q : lookT kvs k with
  | none => rw [q] at h; rw [h]; rfl
  | some d => rw [q] at h; obtain ⟨v, e, _⟩ := h; rw [e]; rfl
end
section
variable {X : Cx} {Γ : CM}
theorem op_inP (hu : X.A.units + 64 < cLine) : OpR X (compareOp .In) (rInP X.K Γ false) := by
  intro pins s σ H x y v u Q I rx ry ⟨d, e, b, rd, re, eb, q⟩
  rw [if_neg Bool.false_ne_true] at q
  have seq : ∀ (ds : List D) (z : D) (hz : z.py = .list (D.pyL ds) ∨ z.py = .tuple (D.pyL ds)) (c : cmpOk z d = true), Rep X.K Γ H z y → b = (ds.any fun y => D.eqv y d) → wpAny (model X.prog X.w) X.A (compareOp .In v u) (EP X pins σ Q) X.xe s := fun ds z hz c rz hb => by
    obtain ⟨c1, c2, c3⟩ := cmpOk_and c
    obtain ⟨as, r1⟩ := Rep.reads I d x v rd rx c2
    obtain ⟨bs, r2⟩ := Rep.reads I z y u rz ry c1
    have fin : EP X pins σ Q (.bool ((D.pyL ds).any fun y => PyData.eqv y d.py)) s := ⟨.bl _, H, I, rfl, by rw [pyL_any, ← hb]; exact q⟩
    rcases hz with hz | hz
    · rw [hz] at r2 c1 c3
      exact PySem.SeqAt.in_list_data r2 r1 c1 c2 (by simp only [PyData.depth] at c3; omega) fin
    · rw [hz] at r2 c1 c3
      exact PySem.SeqAt.in_tuple_data r2 r1 c1 c2 (by simp only [PyData.depth] at c3; omega) fin
  cases e with
  | lst ds => obtain ⟨c, e⟩ := ite_some (show (if cmpOk (.lst ds) d = true then some (ds.any fun y => D.eqv y d) else none) = some b by cases d <;> exact eb); exact seq ds _ (.inl rfl) c re e.symm
  | tup ds => obtain ⟨c, e⟩ := ite_some (show (if cmpOk (.tup ds) d = true then some (ds.any fun y => D.eqv y d) else none) = some b by cases d <;> exact eb); exact seq ds _ (.inr rfl) c re e.symm
  | ktup ds => obtain ⟨c, e⟩ := ite_some (show (if cmpOk (.ktup ds) d = true then some (ds.any fun y => D.eqv y d) else none) = some b by cases d <;> exact eb); exact seq ds _ (.inr rfl) c re e.symm
  | str z =>
    cases d with
    | str w =>
      cases eb
      exact op_in_str pins s σ H x y v u Q I rx ry ⟨w, z, rd.1, re.1, q⟩
    | _ => cases eb
  | dicK kvs =>
    have eb : (keyD d).map (fun k => (lookK kvs k).isSome) = some b := by cases d <;> exact eb
    cases hk : keyD d with
    | none => rw [hk] at eb; cases eb
    | some k =>
      rw [hk] at eb
      obtain ⟨a, vs, rfl, h1, r1⟩ := re
      cases ry
      refine d_in (by omega) I (dget_k (kvs := kvs) rd hk h1) rx fun s' I' => ⟨.bl _, H, I', rfl, ?_⟩
      rw [look_some k r1, show (lookK kvs k).isSome = b from Option.some.inj eb]; exact q
  | dicT kvs =>
    have eb : (keysD d).map (fun k => (lookT kvs k).isSome) = some b := by cases d <;> exact eb
    cases hk : keysD d with
    | none => rw [hk] at eb; cases eb
    | some k =>
      rw [hk] at eb
      obtain ⟨a, vs, rfl, h1, r1⟩ := re
      cases ry
      refine d_in (by omega) I (dget_t rd hk h1) rx fun s' I' => ⟨.bl _, H, I', rfl, ?_⟩
      rw [lookT_some k r1, show (lookT kvs k).isSome = b from Option.some.inj eb]; exact q
  | _ => cases d <;> cases eb
theorem op_ninP (hu : X.A.units + 64 < cLine) : OpR X (compareOp .NotIn) (rInP X.K Γ true) := by
  intro pins s σ H x y v u Q I rx ry ⟨d, e, b, rd, re, eb, q⟩
  rw [if_pos rfl] at q
  have seq : ∀ (ds : List D) (z : D) (hz : z.py = .list (D.pyL ds) ∨ z.py = .tuple (D.pyL ds)) (c : cmpOk z d = true), Rep X.K Γ H z y → b = (ds.any fun y => D.eqv y d) → wpAny (model X.prog X.w) X.A (compareOp .NotIn v u) (EP X pins σ Q) X.xe s := fun ds z hz c rz hb => by
    obtain ⟨c1, c2, c3⟩ := cmpOk_and c
    obtain ⟨as, r1⟩ := Rep.reads I d x v rd rx c2
    obtain ⟨bs, r2⟩ := Rep.reads I z y u rz ry c1
    have fin : EP X pins σ Q (.bool (!(D.pyL ds).any fun y => PyData.eqv y d.py)) s := ⟨.bl _, H, I, rfl, by rw [pyL_any, ← hb]; exact q⟩
    rcases hz with hz | hz
    · rw [hz] at r2 c1 c3
      exact PySem.SeqAt.notIn_list_data r2 r1 c1 c2 (by simp only [PyData.depth] at c3; omega) fin
    · rw [hz] at r2 c1 c3
      exact PySem.SeqAt.notIn_tuple_data r2 r1 c1 c2 (by simp only [PyData.depth] at c3; omega) fin
  cases e with
  | lst ds => obtain ⟨c, e⟩ := ite_some (show (if cmpOk (.lst ds) d = true then some (ds.any fun y => D.eqv y d) else none) = some b by cases d <;> exact eb); exact seq ds _ (.inl rfl) c re e.symm
  | tup ds => obtain ⟨c, e⟩ := ite_some (show (if cmpOk (.tup ds) d = true then some (ds.any fun y => D.eqv y d) else none) = some b by cases d <;> exact eb); exact seq ds _ (.inr rfl) c re e.symm
  | ktup ds => obtain ⟨c, e⟩ := ite_some (show (if cmpOk (.ktup ds) d = true then some (ds.any fun y => D.eqv y d) else none) = some b by cases d <;> exact eb); exact seq ds _ (.inr rfl) c re e.symm
  | str z =>
    cases d with
    | str w =>
      cases eb
      exact op_notin_str pins s σ H x y v u Q I rx ry ⟨w, z, rd.1, re.1, q⟩
    | _ => cases eb
  | dicK kvs =>
    have eb : (keyD d).map (fun k => (lookK kvs k).isSome) = some b := by cases d <;> exact eb
    cases hk : keyD d with
    | none => rw [hk] at eb; cases eb
    | some k =>
      rw [hk] at eb
      obtain ⟨a, vs, rfl, h1, r1⟩ := re
      cases ry
      refine d_notIn (by omega) I (dget_k (kvs := kvs) rd hk h1) rx fun s' I' => ⟨.bl _, H, I', rfl, ?_⟩
      rw [look_some k r1, show (lookK kvs k).isSome = b from Option.some.inj eb]; exact q
  | dicT kvs =>
    have eb : (keysD d).map (fun k => (lookT kvs k).isSome) = some b := by cases d <;> exact eb
    cases hk : keysD d with
    | none => rw [hk] at eb; cases eb
    | some k =>
      rw [hk] at eb
      obtain ⟨a, vs, rfl, h1, r1⟩ := re
      cases ry
      refine d_notIn (by omega) I (dget_t rd hk h1) rx fun s' I' => ⟨.bl _, H, I', rfl, ?_⟩
      rw [lookT_some k r1, show (lookT kvs k).isSome = b from Option.some.inj eb]; exact q
  | _ => cases d <;> cases eb
theorem od_in (hu : X.A.units + 64 < cLine) : OpD Γ X (compareOp .In) (rInP X.K Γ false) opIn .sh :=
  ⟨op_inP hu, fun H0 S H ma mb a b d x y Q sh h0 ra rb e k => by
    cases q : opInB a b with
    | none => unfold opIn at e; rw [q] at e; cases e
    | some c =>
      unfold opIn at e; rw [q] at e; cases e
      exact ⟨a, b, c, ra.full sh h0, rb.full sh h0, q, k.flat sh rfl⟩⟩
theorem od_nin (hu : X.A.units + 64 < cLine) : OpD Γ X (compareOp .NotIn) (rInP X.K Γ true) opNin .sh :=
  ⟨op_ninP hu, fun H0 S H ma mb a b d x y Q sh h0 ra rb e k => by
    cases q : opInB a b with
    | none => unfold opNin at e; rw [q] at e; cases e
    | some c =>
      unfold opNin at e; rw [q] at e; cases e
      exact ⟨a, b, c, ra.full sh h0, rb.full sh h0, q, k.flat sh rfl⟩⟩

/-! ### a[b] -/
def opIx : D → D → Option D
  | .lst ds, .int i => atI ds i
  | .tup ds, .int i => atI ds i
  | .ktup ds, .int i => atI ds i
  | .scr ns, .int i => (atI ns i).map D.int
  | .str z, .int i => (atI z.cps.toList i).map fun c => D.str ⟨#[c]⟩
  | .dicK kvs, d => (keyD d).bind fun k => lookK kvs k
  | .dicT kvs, d => (keysD d).bind fun k => lookT kvs k
  | _, _ => none
theorem RepL.atI {K : PySem.W.Frag} {S : Hp} {ds : List D} {vs : List V} {i : Int} {d : D} (r : RepL K Γ S ds vs) (h : L2.atI ds i = some d) : ∃ v, L2.atI vs i = some v ∧ Rep K Γ S d v := by
  unfold L2.atI at h ⊢
  rw [r.length]
  cases q : ixN ds.length i with
  | none => rw [q] at h; cases h
  | some j =>
    rw [q, Option.bind_some] at h
    rw [Option.bind_some]
    exact r.get h
def rIxD2 : R2 := fun x y H Q => ∃ a v, x = .ref a ∧ DGet H a y (some v) ∧ Q v H
theorem ix_dict (hu : X.A.units + 1 < cLine) : IxR X rIxD2 := by
  intro value slice pins s σ H x y v u Q I rx ry ⟨a, z, e, g, q⟩ hs
  subst e
  cases rx
  exact PyProof.Rows.tail_any (dict_typeIs I g) PySem.F.slot_dict_getitem.lookup (d_getItem hu I g ry fun w' s' I' rw' => ⟨z, H, I', rw', q⟩) hs
def rIxA (K : PySem.W.Frag) : R2 := fun x y H Q => rIxL K x y H Q ∨ ((rIxT K x y H Q ∨ rIxS x y H Q) ∨ rIxD2 x y H Q)
theorem ix_all (hu : X.A.units + 1 < cLine) : IxR X (rIxA X.K) := ix_list.or ((ix_tup.or ix_str).or (ix_dict hu))
theorem atI_map {α β : Type} (g : α → β) (l : List α) (i : Int) : L2.atI (l.map g) i = (L2.atI l i).map g := by
  unfold L2.atI
  rw [List.length_map]
  cases ixN l.length i with
  | none => rfl
  | some j => rw [Option.bind_some, Option.bind_some, List.getElem?_map]
theorem snd_ix {K : PySem.W.Frag} : SndR2 K Γ (rIxA K) opIx .sh := fun H0 S H ma mb a b d x y Q sh h0 ra rb e k => by
  have dk : ∀ {kvs : List (Key × D)} {c : Key}, keyD b = some c → lookK kvs c = some d → (∃ p vs, x = .ref p ∧ H p = some (.dK vs) ∧ RepK K Γ S kvs vs) → rIxA K x y H Q := fun {kvs c} hk hl ⟨p, vs, e1, h1, r1⟩ => by
    have h := valV_look c r1
    rw [hl] at h
    obtain ⟨v, e, rv⟩ := h
    exact .inr (.inr ⟨p, v, e1, e ▸ dget_k (kvs := kvs) (rb.full sh h0) hk h1, k.flat sh rv⟩)
  have dt : ∀ {kvs : List (List Key × D)} {c : List Key}, keysD b = some c → lookT kvs c = some d → (∃ p vs, x = .ref p ∧ H p = some (.dT vs) ∧ RepT K Γ S kvs vs) → rIxA K x y H Q := fun {kvs c} hk hl ⟨p, vs, e1, h1, r1⟩ => by
    have h := valV_lookT c r1
    rw [hl] at h
    obtain ⟨v, e, rv⟩ := h
    exact .inr (.inr ⟨p, v, e1, e ▸ dget_t (rb.full sh h0) hk h1, k.flat sh rv⟩)
  cases a with
  | lst ds =>
    cases b with
    | int i =>
      obtain ⟨p, vs, e1, h1, l1, r1⟩ := ra.lst sh h0
      obtain ⟨v, e2, r2⟩ := r1.atI e
      exact .inl ⟨p, vs, i, v, e1, rb.int h0, SqL.of h1, e2, k.flat sh r2⟩
    | _ => cases e
  | tup ds =>
    cases b with
    | int i =>
      obtain ⟨p, vs, e1, h1, l1, r1⟩ := ra.tup h0
      obtain ⟨v, e2, r2⟩ := r1.atI e
      exact .inr (.inl (.inl ⟨p, vs, i, v, e1, rb.int h0, SqT.of (sh _ _ h1), e2, k.flat sh r2⟩))
    | _ => cases e
  | ktup ds =>
    cases b with
    | int i =>
      obtain ⟨p, vs, e1, h1, l1, r1⟩ := ra.ktup h0
      obtain ⟨v, e2, r2⟩ := r1.atI e
      exact .inr (.inl (.inl ⟨p, vs, i, v, e1, rb.int h0, Same.sqt sh h1, e2, k.flat sh r2⟩))
    | _ => cases e
  | scr ns =>
    cases b with
    | int i =>
      obtain ⟨p, e1, h1, l1⟩ := ra.scr h0
      have e : (L2.atI ns i).map D.int = some d := e
      cases q : L2.atI ns i with
      | none => rw [q] at e; cases e
      | some n =>
        rw [q] at e; cases e
        exact .inl ⟨p, _, i, .int n, e1, rb.int h0, sh.seq h1, by rw [atI_map, q]; rfl, k.flat sh rfl⟩
    | _ => cases e
  | str z =>
    cases b with
    | int i =>
      have e : (L2.atI z.cps.toList i).map (fun c => D.str ⟨#[c]⟩) = some d := e
      cases q : L2.atI z.cps.toList i with
      | none => rw [q] at e; cases e
      | some n =>
        rw [q] at e; cases e
        exact .inr (.inl (.inr ⟨z, i, n, (ra.str h0).1, rb.int h0, (ra.str h0).2, q, k.flat sh ⟨rfl, by show 1 ≤ sizeLine; decide⟩⟩))
    | _ => cases e
  | dicK kvs =>
    have e : (keyD b).bind (fun k => lookK kvs k) = some d := by cases b <;> exact e
    cases q : keyD b with
    | none => rw [q] at e; cases e
    | some c => rw [q] at e; exact dk q e (ra.dicK sh h0)
  | dicT kvs =>
    have e : (keysD b).bind (fun k => lookT kvs k) = some d := by cases b <;> exact e
    cases q : keysD b with
    | none => rw [q] at e; cases e
    | some c => rw [q] at e; exact dt q e (ra.dicT sh h0)
  | _ => cases b <;> cases e
end
section
variable {X : Cx} {Γ : CM} {M : List Mode} {e a b c : Expr} {t ta tb tc : TE} {f g h : Ev} {m ma mb mc : Mode} {pos : Pos}
theorem de_ix (hu : X.A.units + 64 < cLine) (ha : DE Γ X M a ta f ma) (hb : DE Γ X M b tb g mb) (hs : PlainIx b := by exact fun _ _ => rfl) : DE Γ X M (.Subscript a b pos) (tOp (rIxA X.K) ta tb) (v2 opIx f g) .sh :=
  ⟨pe_ix (ix_all (by omega)) ha.pe hb.pe hs, snd_op snd_ix ha.snd hb.snd⟩
/-! ### slices -/
def SndO (K : PySem.W.Frag) (Γ : CM) (M : List Mode) (t : TO) (f : Env → Option (Option Int)) : Prop :=
  ∀ S0 H0 S H σ δ Q o, Wd K Γ S0 H0 S H σ M δ → f δ = some o → (∀ S' H', Ext S H S' H' → Q o H') → t σ H Q
structure DO (Γ : CM) (X : Cx) (M : List Mode) (e : Option Expr) (t : TO) (f : Env → Option (Option Int)) : Prop where
  po : PO X e t
  snd : SndO X.K Γ M t f
theorem do_none : DO Γ X M none tNoPart (fun _ => some none) := ⟨po_none, fun S0 H0 S H σ δ Q o w e k => by cases e; exact k S H (Ext.refl w.sH)⟩
def vPart (f : Ev) : Env → Option (Option Int) := fun δ => (f δ).bind fun d => match d with | .int i => some (some i) | _ => none
theorem do_some (ha : DE Γ X M e t f m) : DO Γ X M (some e) (tPart t) (vPart f) := ⟨po_some ha.pe, fun S0 H0 S H σ δ Q o w ef k => by
  unfold vPart at ef
  cases q : f δ with
  | none => rw [q] at ef; cases ef
  | some d =>
    rw [q, Option.bind_some] at ef
    cases d with
    | int i =>
      cases ef
      exact ha.snd S0 H0 S H σ δ _ _ w q fun v S' H' e1 r _ => ⟨i, r.int (w.mono e1).h0, k S' H' e1⟩
    | _ => cases ef⟩
def cutD {α : Type} (xs : List α) (lo hi : Option Int) : List α := (xs.drop (HT.sIx xs.length 0 lo)).take (HT.sIx xs.length xs.length hi - HT.sIx xs.length 0 lo)
def opSl : D → Option Int → Option Int → Option D
  | .lst ds, lo, hi => some (.lst (cutD ds lo hi))
  | .scr ns, lo, hi => some (.lst (cutD (ns.map D.int) lo hi))
  | .str z, lo, hi => some (.str ⟨(cutD z.cps.toList lo hi).toArray⟩)
  | .tup ds, lo, hi => if HT.sIx ds.length 0 lo = 0 ∧ HT.sIx ds.length ds.length hi = ds.length then none else some (.tup (cutD ds lo hi))
  | _, _, _ => none
def opSlL : D → Option Int → Option Int → Option D
  | .lst ds, lo, hi => some (.lst (cutD ds lo hi))
  | _, _, _ => none
def vSl (o : D → Option Int → Option Int → Option D) (f : Ev) (l u : Env → Option (Option Int)) : Ev := fun δ => (f δ).bind fun d => (l δ).bind fun lo => (u δ).bind fun hi => o d lo hi
theorem cutD_len {α : Type} (xs : List α) (lo hi : Option Int) : (cutD xs lo hi).length ≤ xs.length := by
  unfold cutD
  rw [List.length_take, List.length_drop]; omega
theorem RepL.cut {K : PySem.W.Frag} {S : Hp} {ds : List D} {vs : List V} (r : RepL K Γ S ds vs) (lo hi : Option Int) : RepL K Γ S (cutD ds lo hi) (cutV vs lo hi) := by
  unfold cutD cutV
  rw [r.length]
  exact (r.drop _).take _
def rSlAll (K : PySem.W.Frag) : V → Option Int → Option Int → Hp → VK → Prop := fun x lo hi H Q => rSlL K x lo hi H Q ∨ (rSlS x lo hi H Q ∨ rSlT K x lo hi H Q)
theorem snd_sl {K : PySem.W.Frag} {tl th : TO} {l u : Env → Option (Option Int)} {r : V → Option Int → Option Int → Hp → VK → Prop} {o : D → Option Int → Option Int → Option D}
    (ho : ∀ H0 S H ma a lo hi d x Q, Same S H → Same H0 H → RepM K Γ H0 S H ma a x → o a lo hi = some d → Kont K Γ H0 S H m d Q → r x lo hi H Q)
    (sa : SndE K Γ M ta f ma) (sl : SndO K Γ M tl l) (su : SndO K Γ M th u) : SndE K Γ M (tSl r ta tl th) (vSl o f l u) m := fun S0 H0 S H σ δ Q d w ef k => by
  unfold vSl at ef
  cases p : f δ with
  | none => rw [p] at ef; cases ef
  | some a =>
    cases q : l δ with
    | none => rw [p, q] at ef; cases ef
    | some lo =>
      cases z : u δ with
      | none => rw [p, q, z] at ef; cases ef
      | some hi =>
        rw [p, q, z] at ef
        simp only [Option.bind_some] at ef
        refine sa S0 H0 S H σ δ _ _ w p fun v S1 H1 e1 r1 _ => ?_
        refine sl S0 H0 S1 H1 σ δ _ _ (w.mono e1) q fun S2 H2 e2 => ?_
        refine su S0 H0 S2 H2 σ δ _ _ ((w.mono e1).mono e2) z fun S3 H3 e3 => ?_
        exact ho H0 S3 H3 ma a lo hi d v Q e3.sh (((w.mono e1).mono e2).mono e3).h0 ((r1.mono e2).mono e3) ef (k.ext ((e1.trans e2).trans e3))
theorem de_sl {lo hi : Option Expr} {tl th : TO} {l u : Env → Option (Option Int)} {p2 : Pos} (ha : DE Γ X M a ta f ma) (hl : DO Γ X M lo tl l) (hh : DO Γ X M hi th u) : DE Γ X M (.Subscript a (.Slice lo hi none p2) pos) (tSl (rSlAll X.K) ta tl th) (vSl opSl f l u) .sh :=
  ⟨pe_slice (sl_list.or (sl_str.or sl_tup)) ha.pe hl.po hh.po, snd_sl (fun H0 S H ma a lo hi d x Q sh h0 ra e k => by
    cases a with
    | lst ds =>
      cases e
      obtain ⟨p, vs, e1, h1, l1, r1⟩ := ra.lst sh h0
      exact .inl ⟨p, vs, e1, SqL.of h1, fun t ht => k.newL rfl sh (Nat.le_trans (cutD_len ..) l1) (r1.cut lo hi) ht⟩
    | scr ns =>
      cases e
      obtain ⟨p, e1, h1, l1⟩ := ra.scr h0
      have l2 : (ns.map D.int).length ≤ 63 := by rw [List.length_map]; exact l1
      exact .inl ⟨p, _, e1, sh.seq h1, fun t ht => k.newL rfl sh (Nat.le_trans (cutD_len ..) (Nat.le_trans l2 (by decide))) ((RepL.ints ns).cut lo hi) ht⟩
    | str z =>
      cases e
      refine .inr (.inl ⟨z, (ra.str h0).1, (ra.str h0).2, k.flat sh ⟨?_, ?_⟩⟩)
      · have : z.cps.toList.length = z.length := by simp [Str.length]
        unfold cutS cutD
        rw [this]
      · refine Nat.le_trans ?_ (ra.str h0).2
        show ((cutD z.cps.toList lo hi).toArray).size ≤ z.cps.size
        rw [List.size_toArray]
        exact Nat.le_trans (cutD_len ..) (by simp)
    | tup ds =>
      have e : (if HT.sIx ds.length 0 lo = 0 ∧ HT.sIx ds.length ds.length hi = ds.length then none else some (D.tup (cutD ds lo hi))) = some d := e
      obtain ⟨p, vs, e1, h1, l1, r1⟩ := ra.tup h0
      split at e
      · cases e
      · rename_i c
        cases e
        exact .inr (.inr ⟨p, vs, e1, SqT.of (sh _ _ h1), by rw [r1.length]; exact c, fun t ht => k.newT sh (Nat.le_trans (cutD_len ..) l1) (r1.cut lo hi) ht⟩)
    | _ => cases e) ha.snd hl.snd hh.snd⟩
theorem de_slL {lo hi : Option Expr} {tl th : TO} {l u : Env → Option (Option Int)} {p2 : Pos} (ha : DE Γ X M a ta f ma) (hl : DO Γ X M lo tl l) (hh : DO Γ X M hi th u) : DE Γ X M (.Subscript a (.Slice lo hi none p2) pos) (tSl (rSlL X.K) ta tl th) (vSl opSlL f l u) .ow :=
  ⟨pe_slice sl_list ha.pe hl.po hh.po, snd_sl (fun H0 S H ma a lo hi d x Q sh h0 ra e k => by
    cases a with
    | lst ds =>
      cases e
      obtain ⟨p, vs, e1, h1, l1, r1⟩ := ra.lst sh h0
      exact ⟨p, vs, e1, SqL.of h1, fun t ht => k.newL rfl sh (Nat.le_trans (cutD_len ..) l1) (r1.cut lo hi) ht⟩
    | _ => cases e) ha.snd hl.snd hh.snd⟩
end
end Dl
/-! tests, displays, fields, calls, statements. -/
namespace Dl
open PySem L2
section
variable {X : Cx} {Γ : CM} {M : List Mode} {e a b c : Expr} {t ta tb tc : TE} {f g h : Ev} {m ma mb mc : Mode} {pos : Pos} {rest : List Expr} {tA tB' : TT} {p q : Env → Option Bool}
/-! ### tests -/
def bAnd (p q : Env → Option Bool) : Env → Option Bool := fun δ => (p δ).bind fun b => if b = true then q δ else some false
def bOr (p q : Env → Option Bool) : Env → Option Bool := fun δ => (p δ).bind fun b => if b = true then some true else q δ
def bNot (p : Env → Option Bool) : Env → Option Bool := fun δ => (p δ).map (!·)
theorem bind_some {α β : Type} {o : Option α} {k : α → Option β} {d : β} (h : o.bind k = some d) : ∃ a, o = some a ∧ k a = some d := by
  cases o with
  | none => cases h
  | some a => exact ⟨a, rfl, h⟩
theorem snd_and {K : PySem.W.Frag} (s : SndT K Γ M tA p) (u : SndT K Γ M tB' q) : SndT K Γ M (tAnd tA tB') (bAnd p q) := fun S0 H0 S H σ δ Q b w ef k => by
  obtain ⟨c, e1, e2⟩ := bind_some ef
  refine s S0 H0 S H σ δ _ c w e1 fun S1 H1 x1 => ?_
  cases c with
  | true => rw [if_pos rfl] at e2 ⊢; exact u S0 H0 S1 H1 σ δ Q b (w.mono x1) e2 fun S2 H2 x2 => k S2 H2 (x1.trans x2)
  | false => rw [if_neg Bool.false_ne_true] at e2 ⊢; cases e2; exact k S1 H1 x1
theorem snd_or {K : PySem.W.Frag} (s : SndT K Γ M tA p) (u : SndT K Γ M tB' q) : SndT K Γ M (tOr tA tB') (bOr p q) := fun S0 H0 S H σ δ Q b w ef k => by
  obtain ⟨c, e1, e2⟩ := bind_some ef
  refine s S0 H0 S H σ δ _ c w e1 fun S1 H1 x1 => ?_
  cases c with
  | false => rw [if_neg Bool.false_ne_true] at e2 ⊢; exact u S0 H0 S1 H1 σ δ Q b (w.mono x1) e2 fun S2 H2 x2 => k S2 H2 (x1.trans x2)
  | true => rw [if_pos rfl] at e2 ⊢; cases e2; exact k S1 H1 x1
theorem dw_and1 (h : DT Γ X M a tA p) : DW Γ X M (.BoolOp .And [a] pos) tA p := ⟨pw_and1 h.pt, h.snd⟩
theorem dw_or1 (h : DT Γ X M a tA p) : DW Γ X M (.BoolOp .Or [a] pos) tA p := ⟨pw_or1 h.pt, h.snd⟩
theorem dw_and (h : DT Γ X M a tA p) (h2 : DW Γ X M (.BoolOp .And (b :: rest) pos) tB' q) : DW Γ X M (.BoolOp .And (a :: b :: rest) pos) (tAnd tA tB') (bAnd p q) := ⟨pw_and h.pt h2.pw, snd_and h.snd h2.snd⟩
theorem dw_or (h : DT Γ X M a tA p) (h2 : DW Γ X M (.BoolOp .Or (b :: rest) pos) tB' q) : DW Γ X M (.BoolOp .Or (a :: b :: rest) pos) (tOr tA tB') (bOr p q) := ⟨pw_or h.pt h2.pw, snd_or h.snd h2.snd⟩
theorem DW.dt (h : DW Γ X M e tA p) : DT Γ X M e tA p := ⟨h.pw.pt, h.snd⟩
theorem dt_not (h : DT Γ X M a tA p) : DT Γ X M (.UnaryOp .Not a pos) (tNot tA) (bNot p) := ⟨pt_not h.pt, fun S0 H0 S H σ δ Q b w ef k => by
  unfold bNot at ef
  cases z : p δ with
  | none => rw [z] at ef; cases ef
  | some c => rw [z] at ef; cases ef; exact h.snd S0 H0 S H σ δ _ c w z fun S1 H1 x1 => k S1 H1 x1⟩
/-- .. as values (truths) -/
def vAnd (f g : Ev) : Ev := fun δ => (vTst f δ).bind fun b => if b = true then g δ else some (.bl false)
def vOr (f g : Ev) : Ev := fun δ => (vTst f δ).bind fun b => if b = true then some (.bl true) else g δ
def vNot (f : Ev) : Ev := fun δ => (vTst f δ).map fun b => .bl (!b)
theorem de_one {op} (h : DE Γ X M a t f m) (hm : okS m = true := by rfl) : DE Γ X M (.BoolOp op [a] pos) t f .sh := ⟨pe_one h.pe, h.snd.sh hm⟩
theorem de_and (ha : DE Γ X M a ta f ma) (hb : DE Γ X M (.BoolOp .And (b :: rest) pos) tb g .sh) : DE Γ X M (.BoolOp .And (a :: b :: rest) pos) (tAndV ta tb) (vAnd f g) .sh := ⟨pe_and ha.pe hb.pe, fun S0 H0 S H σ δ Q d w ef k => by
  obtain ⟨c, e1, e2⟩ := bind_some ef
  refine ha.snd S0 H0 S H σ δ _ _ w (vTst_some e1) fun v S1 H1 x1 r1 _ => ⟨c, r1.bl (w.mono x1).h0, ?_⟩
  cases c with
  | true => rw [if_pos rfl] at e2 ⊢; exact hb.snd S0 H0 S1 H1 σ δ Q d (w.mono x1) e2 (k.ext x1)
  | false => rw [if_neg Bool.false_ne_true] at e2 ⊢; cases e2; exact (k.ext x1).flat x1.sh rfl⟩
theorem de_or (ha : DE Γ X M a ta f ma) (hb : DE Γ X M (.BoolOp .Or (b :: rest) pos) tb g .sh) : DE Γ X M (.BoolOp .Or (a :: b :: rest) pos) (tOrV ta tb) (vOr f g) .sh := ⟨pe_or ha.pe hb.pe, fun S0 H0 S H σ δ Q d w ef k => by
  obtain ⟨c, e1, e2⟩ := bind_some ef
  refine ha.snd S0 H0 S H σ δ _ _ w (vTst_some e1) fun v S1 H1 x1 r1 _ => ⟨c, r1.bl (w.mono x1).h0, ?_⟩
  cases c with
  | false => rw [if_neg Bool.false_ne_true] at e2 ⊢; exact hb.snd S0 H0 S1 H1 σ δ Q d (w.mono x1) e2 (k.ext x1)
  | true => rw [if_pos rfl] at e2 ⊢; cases e2; exact (k.ext x1).flat x1.sh rfl⟩
theorem de_not (ha : DE Γ X M a ta f ma) : DE Γ X M (.UnaryOp .Not a pos) (tNotV ta) (vNot f) .sh := ⟨pe_not ha.pe, fun S0 H0 S H σ δ Q d w ef k => by
  unfold vNot at ef
  cases z : vTst f δ with
  | none => rw [z] at ef; cases ef
  | some c =>
    rw [z] at ef; cases ef
    exact ha.snd S0 H0 S H σ δ _ _ w (vTst_some z) fun v S1 H1 x1 r1 _ => ⟨c, r1.bl (w.mono x1).h0, (k.ext x1).flat x1.sh rfl⟩⟩
def vIf (p : Env → Option Bool) (f g : Ev) : Ev := fun δ => (p δ).bind fun b => if b = true then f δ else g δ
theorem de_ifExp (hc : DT Γ X M c tA p) (ha : DE Γ X M a ta f m) (hb : DE Γ X M b tb g m) : DE Γ X M (.IfExp c a b pos) (tIf tA ta tb) (vIf p f g) m := ⟨pe_ifExp hc.pt ha.pe hb.pe, fun S0 H0 S H σ δ Q d w ef k => by
  obtain ⟨c, e1, e2⟩ := bind_some ef
  refine hc.snd S0 H0 S H σ δ _ _ w e1 fun S1 H1 x1 => ?_
  cases c with
  | true => rw [if_pos rfl] at e2 ⊢; exact ha.snd S0 H0 S1 H1 σ δ Q d (w.mono x1) e2 (k.ext x1)
  | false => rw [if_neg Bool.false_ne_true] at e2 ⊢; exact hb.snd S0 H0 S1 H1 σ δ Q d (w.mono x1) e2 (k.ext x1)⟩
theorem DE.sh (h : DE Γ X M e t f m) (hm : okS m = true := by rfl) : DE Γ X M e t f .sh := ⟨h.pe, h.snd.sh hm⟩
/-! -a -/
def vNeg (f : Ev) : Ev := fun δ => (f δ).bind fun d => match d with | .int i => some (.int (-i)) | _ => none
theorem de_neg (ha : DE Γ X M a ta f ma) : DE Γ X M (.UnaryOp .USub a pos) (fun σ H Q => ta σ H fun x H1 => rU (fun i => .int (-i)) x H1 Q) (vNeg f) .sh := ⟨pe_un un_neg ha.pe, fun S0 H0 S H σ δ Q d w ef k => by
  obtain ⟨c, e1, e2⟩ := bind_some ef
  refine ha.snd S0 H0 S H σ δ _ _ w e1 fun v S1 H1 x1 r1 _ => ?_
  cases c with
  | int i => cases e2; exact ⟨i, r1.int (w.mono x1).h0, (k.ext x1).flat x1.sh rfl⟩
  | _ => cases e2⟩
end

/-! ### argument lists -/
def ArgM (K : PySem.W.Frag) (Γ : CM) (S H : Hp) (m : Mode) (d : D) (v : V) : Prop := match m with
  | .sh => Rep K Γ S d v
  | _ => Rep K Γ S d v ∨ ∃ a, v = .ref a ∧ TopAt K Γ S H a d
theorem ArgM.mono {K : PySem.W.Frag} {Γ : CM} {S H S' H' : Hp} {m : Mode} {d : D} {v : V} (e : Ext S H S' H') (r : ArgM K Γ S H m d v) : ArgM K Γ S' H' m d v := by
  cases m with
  | sh => exact Rep.mono e.ss r
  | _ =>
    rcases r with r | ⟨a, ev, t⟩
    · exact .inl (Rep.mono e.ss r)
    · exact .inr ⟨a, ev, t.mono e.ss fun _ q => e.hh _ _ q⟩
def ArgMs (K : PySem.W.Frag) (Γ : CM) (S H : Hp) : List Mode → List D → List V → Prop
  | [], ds, vs => ds = [] ∧ vs = []
  | m :: ms, ds, vs => ∃ d ds' v vs', ds = d :: ds' ∧ vs = v :: vs' ∧ ArgM K Γ S H m d v ∧ ArgMs K Γ S H ms ds' vs'
theorem ArgMs.mono {K : PySem.W.Frag} {Γ : CM} {S H S' H' : Hp} (e : Ext S H S' H') : ∀ {ms : List Mode} {ds : List D} {vs : List V}, ArgMs K Γ S H ms ds vs → ArgMs K Γ S' H' ms ds vs
  | [], _, _, h => h
  | m :: ms, _, _, ⟨d, ds', v, vs', e1, e2, r, t⟩ => ⟨d, ds', v, vs', e1, e2, r.mono e, ArgMs.mono e t⟩
theorem ArgMs.len {K : PySem.W.Frag} {Γ : CM} {S H : Hp} : ∀ {ms : List Mode} {ds : List D} {vs : List V}, ArgMs K Γ S H ms ds vs → vs.length = ms.length ∧ ds.length = ms.length
  | [], _, _, ⟨e, e'⟩ => by subst e e'; exact ⟨rfl, rfl⟩
  | m :: ms, _, _, ⟨d, ds', v, vs', e1, e2, r, t⟩ => by
    obtain ⟨h1, h2⟩ := ArgMs.len t
    subst e1 e2
    exact ⟨by rw [List.length_cons, List.length_cons, h1], by rw [List.length_cons, List.length_cons, h2]⟩
theorem ArgMs.all_sh {K : PySem.W.Frag} {Γ : CM} {S H : Hp} : ∀ {ms : List Mode} {ds : List D} {vs : List V}, ms.all (· == .sh) = true → ArgMs K Γ S H ms ds vs → RepL K Γ S ds vs
  | [], _, _, _, ⟨e, e'⟩ => by subst e e'; rfl
  | m :: ms, _, _, h, ⟨d, ds', v, vs', e1, e2, r, t⟩ => by
    subst e1 e2
    rw [List.all_cons, Bool.and_eq_true] at h
    have em : m = .sh := by simpa using h.1
    subst em
    exact ⟨v, vs', rfl, r, ArgMs.all_sh h.2 t⟩
def SndAr (K : PySem.W.Frag) (Γ : CM) (M : List Mode) (t : TA) (f : Env → Option (List D)) (ms : List Mode) : Prop :=
  ∀ S0 H0 S H σ δ Q ds, Wd K Γ S0 H0 S H σ M δ → f δ = some ds → (∀ vs S' H', Ext S H S' H' → ArgMs K Γ S' H' ms ds vs → Q vs H') → t σ H Q
structure DAr (Γ : CM) (X : Cx) (M : List Mode) (es : List Expr) (t : TA) (f : Env → Option (List D)) (ms : List Mode) : Prop where
  pa : PA X es t
  snd : SndAr X.K Γ M t f ms
def leM : Mode → Mode → Bool
  | m, .sh => okS m
  | _, .bo => true
  | _, _ => false
section
variable {X : Cx} {Γ : CM} {M : List Mode} {e a b c : Expr} {es : List Expr} {t ta tb tc : TE} {tr : TA} {f g h : Ev} {fr : Env → Option (List D)} {m m' ma mb mc : Mode} {ms : List Mode} {pos : Pos}
def aNil : Env → Option (List D) := fun _ => some []
def aCons (f : Ev) (g : Env → Option (List D)) : Env → Option (List D) := fun δ => (f δ).bind fun d => (g δ).map (d :: ·)
theorem da_nil : DAr Γ X M [] tNil aNil [] := ⟨pa_nil, fun S0 H0 S H σ δ Q ds w ef k => by cases ef; exact k [] S H (Ext.refl w.sH) ⟨rfl, rfl⟩⟩
theorem da_cons (ha : DE Γ X M e t f m) (hr : DAr Γ X M es tr fr ms) (hm : leM m m' = true := by rfl) (hs : starEach (e :: es) X.env = (false, eval e X.env) :: starEach es X.env := by rfl) : DAr Γ X M (e :: es) (tCons t tr) (aCons f fr) (m' :: ms) :=
  ⟨pa_cons ha.pe hr.pa hs, fun S0 H0 S H σ δ Q ds w ef k => by
    obtain ⟨d, e1, e2⟩ := bind_some ef
    cases z : fr δ with
    | none => rw [z] at e2; cases e2
    | some dr =>
      rw [z] at e2; cases e2
      have go : ∀ v S1 H1, Ext S H S1 H1 → ArgM X.K Γ S1 H1 m' d v → tr σ H1 fun xs H2 => Q (v :: xs) H2 := fun v S1 H1 x1 r1 =>
        hr.snd S0 H0 S1 H1 σ δ _ dr (w.mono x1) z fun vs S2 H2 x2 r2 => k (v :: vs) S2 H2 (x1.trans x2) ⟨d, dr, v, vs, rfl, rfl, r1.mono x2, r2⟩
      cases m' with
      | sh => exact (ha.snd.sh hm) S0 H0 S H σ δ _ d w e1 fun v S1 H1 x1 r1 _ => go v S1 H1 x1 r1
      | bo => exact ha.snd S0 H0 S H σ δ _ d w e1 fun v S1 H1 x1 r1 _ => go v S1 H1 x1 (r1.rd (w.mono x1).h0)
      | _ => cases m <;> cases hm⟩
/-! ### displays -/
def vLst (f : Env → Option (List D)) : Ev := fun δ => (f δ).bind fun ds => if ds.length ≤ 1000 then some (.lst ds) else none
def vTup (f : Env → Option (List D)) : Ev := fun δ => (f δ).bind fun ds => if ds.length ≤ 1000 then some (.tup ds) else none
theorem le1000 {n : Nat} (h : n ≤ 1000) : n ≤ sizeLine := Nat.le_of_lt (small1000 h)
theorem de_lst (ha : DAr Γ X M es tr fr ms) (hm : ms.all (· == .sh) = true := by rfl) : DE Γ X M (.List es pos) (tLst tr) (vLst fr) .ow := ⟨pe_lst ha.pa, fun S0 H0 S H σ δ Q d w ef k => by
  obtain ⟨ds, e1, e2⟩ := bind_some ef
  obtain ⟨hl, rfl⟩ := ite_some e2
  refine ha.snd S0 H0 S H σ δ _ ds w e1 fun vs S1 H1 x1 r1 => ⟨by rw [(r1.len).1, ← (r1.len).2]; exact le1000 hl, fun p hp => ?_⟩
  exact (k.ext x1).newL rfl x1.sh (le1000 hl) (ArgMs.all_sh hm r1) hp⟩
theorem de_tup {x1} (ha : DAr Γ X M es tr fr ms) (hm : ms.all (· == .sh) = true := by rfl) : DE Γ X M (.Tuple es x1 pos) (tTup tr) (vTup fr) .sh := ⟨pe_tup ha.pa, fun S0 H0 S H σ δ Q d w ef k => by
  obtain ⟨ds, e1, e2⟩ := bind_some ef
  obtain ⟨hl, rfl⟩ := ite_some e2
  refine ha.snd S0 H0 S H σ δ _ ds w e1 fun vs S1 H1 x1 r1 => ⟨by rw [(r1.len).1, ← (r1.len).2]; exact le1000 hl, fun p hp => ?_⟩
  exact (k.ext x1).newT x1.sh (le1000 hl) (ArgMs.all_sh hm r1) hp⟩
/-! ### fields -/
def fldsD : D → Option (List (Str × D))
  | .ins _ fs => some fs
  | .slf _ _ fs => some fs
  | _ => none
def vFld (x : Str) (f : Ev) : Ev := fun δ => (f δ).bind fun d => (fldsD d).bind fun fs => fs.lookup x
theorem RepF.look {K : PySem.W.Frag} {S : Hp} {x : Str} : ∀ {fs : List (Str × D)} {ws : List (Str × V)} {d : D}, RepF K Γ S fs ws → fs.lookup x = some d → ∃ v, ws.lookup x = some v ∧ Rep K Γ S d v
  | [], _, _, _, h => by cases h
  | (n, y) :: fs, _, d, ⟨v, ws, e, r, t⟩, h => by
    subst e
    rw [List.lookup_cons] at h ⊢
    cases q : x == n with
    | true => rw [q] at h; cases h; exact ⟨v, rfl, r⟩
    | false => rw [q] at h; exact RepF.look t h
/-- what is told of the classes: each class in Γ, its fields' names free -/
structure ClsOk (K : PySem.W.Frag) (Γ : CM) (c : Str) (x : Str) : Prop where
  ok : ∀ C, iM Γ c = some C → Cls K C ∧ NoAttr K C x
theorem de_fld {x : Str} (T : ∀ c, ClsOk X.K Γ c x) (ha : DE Γ X M e t f m) (hb : attributeBase e x X.env (eval e X.env) = eval e X.env := by rfl) : DE Γ X M (.Attribute e x pos) (tFld X.K t x) (vFld x f) .sh := ⟨pe_fld ha.pe hb, fun S0 H0 S H σ δ Q d w ef k => by
  obtain ⟨o, e1, e3⟩ := bind_some ef
  obtain ⟨fs, e4, e2⟩ := bind_some e3
  cases o with
  | ins c fs' =>
    cases e4
    refine ha.snd S0 H0 S H σ δ _ _ w e1 fun v S1 H1 x1 r1 _ => ?_
    obtain ⟨a, C, dx, ws, ev, g, h, r⟩ := r1.ins (w.mono x1).h0
    obtain ⟨z, ez, rz⟩ := r.look e2
    exact ⟨a, C, dx, ws, z, ev, x1.sh _ _ h, ((T c).ok C g).1, ((T c).ok C g).2, ez, (k.ext x1).flat x1.sh rz⟩
  | slf b c fs' =>
    cases e4
    refine ha.snd S0 H0 S H σ δ _ _ w e1 fun v S1 H1 x1 r1 _ => ?_
    rcases r1.rd (w.mono x1).h0 with ⟨a, C, dx, ws, ev, g, h, r, _⟩ | ⟨a, ev, C, dx, ws, h, g, r, _⟩
    · obtain ⟨z, ez, rz⟩ := r.look e2
      exact ⟨a, C, dx, ws, z, ev, x1.sh _ _ h, ((T c).ok C g).1, ((T c).ok C g).2, ez, (k.ext x1).flat x1.sh rz⟩
    · obtain ⟨z, ez, rz⟩ := r.look e2
      exact ⟨a, C, dx, ws, z, ev, h, ((T c).ok C g).1, ((T c).ok C g).2, ez, (k.ext x1).flat x1.sh rz⟩
  | _ => cases e4⟩
/-! ### calls by values -/
def SndC (K : PySem.W.Frag) (Γ : CM) (r : List V → Hp → VK → Prop) (op : List D → Option D) (ms : List Mode) (m : Mode) : Prop :=
  ∀ S H ds vs d Q, Same S H → ArgMs K Γ S H ms ds vs → op ds = some d → Kont K Γ H S H m d Q → r vs H Q
structure CD (Γ : CM) (X : Cx) (f : Value) (r : List V → Hp → VK → Prop) (op : List D → Option D) (ms : List Mode) (m : Mode) : Prop where
  call : CallR X f r
  snd : SndC X.K Γ r op ms m
def vC1 (op : List D → Option D) (f : Env → Option (List D)) : Ev := fun δ => (f δ).bind op
theorem Kont.h0 {K : PySem.W.Frag} {S H H1 H2 : Hp} {d : D} {Q : VK} (k : Kont K Γ H1 S H m d Q) (hm : okS m = true) : Kont K Γ H2 S H m d Q := fun v S' H' e r f => by
  cases m with
  | sh => exact k v S' H' e r f
  | ow => exact k v S' H' e r f
  | _ => cases hm
theorem snd_c1 {K : PySem.W.Frag} {r : List V → Hp → VK → Prop} {op : List D → Option D} (hm : okS m = true) (o : SndC K Γ r op ms m) (s : SndAr K Γ M tr fr ms) : SndE K Γ M (tCB r tr) (vC1 op fr) m := fun S0 H0 S H σ δ Q d w ef k => by
  obtain ⟨ds, e1, e2⟩ := bind_some ef
  exact s S0 H0 S H σ δ _ ds w e1 fun vs S1 H1 x1 r1 => o S1 H1 ds vs d Q x1.sh r1 e2 ((k.ext x1).h0 hm)
theorem de_callB {x : Str} {p : Pos} {id : String} {r : List V → Hp → VK → Prop} {op : List D → Option D} (hc : CD Γ X (.builtin id) r op ms m) (hg : Gl X x) (hn : X.mg x = none) (hv : bootBuiltins x = some (.builtin id)) (ha : DAr Γ X M (e :: es) tr fr ms) (hm : okS m = true := by rfl)
    (h1 : x ≠ ("__name__" : Str) := by decide) (h2 : (x == ("__debug__" : Str)) = false := by decide) (h3 : starEach (e :: es) X.env = (false, eval e X.env) :: starEach es X.env := by rfl) (h4 : (backTo pos (starEach es X.env)).any (·.1) = false := by rfl) :
    DE Γ X M (.Call (.Name x p) (e :: es) [] pos) (tCB r tr) (vC1 op fr) m := ⟨pe_callB hc.call hg hn hv ha.pa h1 h2 h3 h4, snd_c1 hm hc.snd ha.snd⟩
theorem de_callTy {x : Str} {p : Pos} {T : String} {r : List V → Hp → VK → Prop} {op : List D → Option D} (hc : CD Γ X (.type T) r op ms m) (hg : Gl X x) (hn : X.mg x = none) (hv : bootBuiltins x = some (.type T)) (ha : DAr Γ X M (e :: es) tr fr ms) (hm : okS m = true := by rfl)
    (h1 : x ≠ ("__name__" : Str) := by decide) (h2 : (x == ("__debug__" : Str)) = false := by decide) (h3 : starEach (e :: es) X.env = (false, eval e X.env) :: starEach es X.env := by rfl) (h4 : (backTo pos (starEach es X.env)).any (·.1) = false := by rfl) :
    DE Γ X M (.Call (.Name x p) (e :: es) [] pos) (tCB r tr) (vC1 op fr) m := ⟨pe_callTy hc.call hg hn hv ha.pa h1 h2 h3 h4, snd_c1 hm hc.snd ha.snd⟩

/-! ### calls of the program's defs -/
/-- a def's promise by its denotation -/
def spD (K : PySem.W.Frag) (Γ : CM) (pm : List Mode) (rm : Mode) (den : List D → Option D) : Sp := fun vs H Q _ =>
  ∃ S ds r, Same S H ∧ ArgMs K Γ S H pm ds vs ∧ den ds = some r ∧ Kont K Γ H S H rm r Q
theorem snd_call {K : PySem.W.Frag} {pm : List Mode} {den : List D → Option D} {E : XK} (hm : okS m = true) (s : SndAr K Γ M tr fr pm) : SndE K Γ M (tCall (spD K Γ pm m den) [] E tr) (vC1 den fr) m := fun S0 H0 S H σ δ Q d w ef k => by
  obtain ⟨ds, e1, e2⟩ := bind_some ef
  refine s S0 H0 S H σ δ _ ds w e1 fun vs S1 H1 x1 r1 => ?_
  show spD K Γ pm m den (vs ++ []) H1 Q E
  rw [List.append_nil]
  exact ⟨S1, ds, d, x1.sh, r1, e2, (k.ext x1).h0 hm⟩
theorem de_call {fa : Addr} {fd : FuncData} {ps : List Str} {k : Nat} {x : Str} {p : Pos} {pm : List Mode} {den : List D → Option D} (F : FnOk X.prog X.w X.K X.mg X.base CX0 k fa fd ps (spD X.K Γ pm m den)) (hr : Room k X.A) (hg : Gl X x) (hx : X.mg x = some (.ref fa)) (hk : PySem.W.keepIn X.K (.ref fa) = true) (hb : Binds X.K fd ps [])
    (ha : DAr Γ X M (e :: es) tr fr pm) (hm : okS m = true := by rfl) (h2 : (x == ("__debug__" : Str)) = false := by decide) (h3 : starEach (e :: es) X.env = (false, eval e X.env) :: starEach es X.env := by rfl) (h4 : (backTo pos (starEach es X.env)).any (·.1) = false := by rfl) :
    DE Γ X M (.Call (.Name x p) (e :: es) [] pos) (tCall (spD X.K Γ pm m den) [] E0 tr) (vC1 den fr) m := ⟨pe_call F hr hg hx hk hb .nil pass0 ha.pa h2 h3 h4, snd_call hm ha.snd⟩
end

/-! ### statements -/
inductive Out where
  | nx (δ : Env) | rt (d : D) | ex (c : Str) (fs : List (Str × D))
abbrev Sv := Env → Option Out
def RepX (K : PySem.W.Frag) (Γ : CM) (S H : Hp) (c : Str) (fs : List (Str × D)) (cls : Value) (dd : Option Addr) : Prop :=
  ∃ C, Γ c = some C ∧ cls = .ref C ∧ ((fs = [] ∧ dd = none) ∨ fs ≠ [] ∧ ∃ d ws, dd = some d ∧ H d = some (.xd ws) ∧ RepF K Γ S fs ws)
/-- the slots out of ws are as they were -/
def Fr (ws : List Nat) (σ σ' : St) : Prop := σ'.length = σ.length ∧ ∀ j, j ∉ ws → σ'[j]? = σ[j]?
theorem Fr.refl {ws : List Nat} {σ : St} : Fr ws σ σ := ⟨rfl, fun _ _ => rfl⟩
theorem Fr.trans {ws ws' : List Nat} {σ σ1 σ2 : St} (a : Fr ws σ σ1) (b : Fr ws' σ1 σ2) : Fr (ws ++ ws') σ σ2 := ⟨b.1.trans a.1, fun j h => (b.2 j fun z => h (List.mem_append_right _ z)).trans (a.2 j fun z => h (List.mem_append_left _ z))⟩
theorem Fr.same {ws : List Nat} {σ σ1 σ2 : St} (a : Fr ws σ σ1) (b : Fr ws σ1 σ2) : Fr ws σ σ2 := ⟨b.1.trans a.1, fun j h => (b.2 j h).trans (a.2 j h)⟩
theorem Fr.up {ws ws' : List Nat} {σ σ1 : St} (a : Fr ws σ σ1) (h : ∀ j ∈ ws, j ∈ ws') : Fr ws' σ σ1 := ⟨a.1, fun j q => a.2 j fun z => q (h j z)⟩
theorem Fr.set {i : Nat} {σ : St} {o : Option V} : Fr [i] σ (σ.set i o) := ⟨List.length_set, fun j h => List.getElem?_set_ne (fun e => h (by rw [e]; exact List.mem_singleton.mpr rfl))⟩
def Fin (K : PySem.W.Frag) (Γ : CM) (S0 H0 S : Hp) (E : WX) (rm : Mode) (M' : List Mode) (ws : List Nat) (σ : St) : Out → Ends → Prop
  | .nx δ', Dn => ∀ S' H' σ', Same S S' → Wd K Γ S0 H0 S' H' σ' M' δ' → Fr ws σ σ' → Dn.nx σ' H'
  | .rt d, Dn => ∀ v S' H', Ext S0 H0 S' H' → RepM K Γ H0 S' H' rm d v → (rm = .ow → ∀ a, v = .ref a → H0 a = none) → Dn.rt v H'
  | .ex c fs, _ => ∀ cls dd S' H' σ', Same S S' → Ext S0 H0 S' H' → Fr ws σ σ' → RepX K Γ S' H' c fs cls dd → E cls dd σ' H'
abbrev W0 : WX := fun _ _ _ _ => False
def SndS (K : PySem.W.Frag) (Γ : CM) (E : WX) (rm : Mode) (M : List Mode) (t : TS) (f : Sv) (M' : List Mode) (ws : List Nat) : Prop :=
  ∀ S0 H0 S H σ δ Dn o, Wd K Γ S0 H0 S H σ M δ → f δ = some o → Fin K Γ S0 H0 S E rm M' ws σ o Dn → t Dn σ H
structure DS (Γ : CM) (X : Cx) (E : WX) (rm : Mode) (M : List Mode) (st : Stmt) (t : TS) (f : Sv) (M' : List Mode) (ws : List Nat) : Prop where
  ps : PS X st t
  snd : SndS X.K Γ E rm M t f M' ws
structure DSs (Γ : CM) (X : Cx) (E : WX) (rm : Mode) (M : List Mode) (st : List Stmt) (t : TS) (f : Sv) (M' : List Mode) (ws : List Nat) : Prop where
  pss : PSs X st t
  snd : SndS X.K Γ E rm M t f M' ws
section
variable {X : Cx} {Γ : CM} {E : WX} {rm : Mode} {M M1 M2 : List Mode} {st : Stmt} {rest body els : List Stmt} {e a b c : Expr} {te : TE} {tc : TT} {t u : TS} {f : Ev} {p : Env → Option Bool} {s s' : Sv} {m : Mode} {pos : Pos} {ws wt : List Nat}
theorem Fin.ss {K : PySem.W.Frag} {S0 H0 S S1 : Hp} {σ : St} {M' : List Mode} {o : Out} {Dn : Ends} (h : Fin K Γ S0 H0 S E rm M' ws σ o Dn) (ss : Same S S1) : Fin K Γ S0 H0 S1 E rm M' ws σ o Dn := by
  cases o with
  | nx δ => exact fun S' H' σ' s1 w fr => h S' H' σ' (ss.trans s1) w fr
  | rt d => exact h
  | ex c fs => exact fun cls dd S' H' σ' s1 => h cls dd S' H' σ' (ss.trans s1)
def sNext : Sv := fun δ => some (.nx δ)
def sSeq (s s' : Sv) : Sv := fun δ => (s δ).bind fun o => match o with | .nx δ' => s' δ' | o => some o
theorem snd_seq {K : PySem.W.Frag} (h1 : SndS K Γ E rm M t s M1 ws) (h2 : SndS K Γ E rm M1 u s' M2 wt) : SndS K Γ E rm M (tSeq t u) (sSeq s s') M2 (ws ++ wt) := fun S0 H0 S H σ δ Dn o w ef k => by
  obtain ⟨o1, e1, e2⟩ := bind_some ef
  refine h1 S0 H0 S H σ δ _ o1 w e1 ?_
  cases o1 with
  | nx δ1 =>
    refine fun S1 H1 σ1 s1 w1 f1 => h2 S0 H0 S1 H1 σ1 δ1 Dn o w1 e2 ?_
    have k := k.ss s1
    cases o with
    | nx δ2 => exact fun S2 H2 σ2 s2 w2 f2 => k S2 H2 σ2 s2 w2 (f1.trans f2)
    | rt d => exact k
    | ex c fs => exact fun cls dd S' H' σ' s2 w2 f2 => k cls dd S' H' σ' s2 w2 (f1.trans f2)
  | rt d => cases e2; exact k
  | ex c fs => cases e2; exact fun cls dd S' H' σ' s2 w2 f2 => k cls dd S' H' σ' s2 w2 (f2.up fun j => List.mem_append_left _)
theorem dss_nil : DSs Γ X E rm M [] tNext sNext M [] := ⟨pss_nil, fun S0 H0 S H σ δ Dn o w ef k => by cases ef; exact k S H σ (Same.refl _) w Fr.refl⟩
theorem dss_cons (h1 : DS Γ X E rm M st t s M1 ws) (h2 : DSs Γ X E rm M1 rest u s' M2 wt) : DSs Γ X E rm M (st :: rest) (tSeq t u) (sSeq s s') M2 (ws ++ wt) := ⟨pss_cons h1.ps h2.pss, snd_seq h1.snd h2.snd⟩
theorem dss_one (h1 : DS Γ X E rm M st t s M1 ws) : DSs Γ X E rm M [st] t s M1 ws := ⟨pss_one h1.ps, h1.snd⟩
/-- an owned slot becomes shared -/
theorem dss_freeze (i : Nat) (h : DSs Γ X E rm M1 rest u s' M2 ws) (he : M.set i .sh = M1 := by rfl) (hi : i < M.length := by decide) (hm : md M i = .ow := by rfl) : DSs Γ X E rm M rest u s' M2 ws := ⟨h.pss, fun S0 H0 S H σ δ Dn o w ef k => by
  subst he
  obtain ⟨S1, ss, w1⟩ := w.freeze hi hm
  exact h.snd S0 H0 S1 H σ δ Dn o w1 ef (k.ss ss)⟩
/-- .. at the end -/
theorem DSs.frozen (i : Nat) (h : DSs Γ X E rm M rest u s' M2 ws) (he : M2.set i .sh = M1 := by rfl) (hi : i < M2.length := by decide) (hm : md M2 i = .ow := by rfl) : DSs Γ X E rm M rest u s' M1 ws := ⟨h.pss, fun S0 H0 S H σ δ Dn o w ef k => by
  subst he
  refine h.snd S0 H0 S H σ δ Dn o w ef ?_
  cases o with
  | nx δ1 => exact fun S1 H1 σ1 s1 w1 f1 => let ⟨S2, s2, w2⟩ := w1.freeze hi hm; k S2 H1 σ1 (s1.trans s2) w2 f1
  | rt d => exact k
  | ex c fs => exact k⟩
def sSet (i : Nat) (f : Ev) : Sv := fun δ => (f δ).map fun d => .nx (δ.set i (some d))
theorem snd_set {K : PySem.W.Frag} {i : Nat} (hi : i < M.length) (hm : okS m = true ∨ m = .bo) (h : SndE K Γ M te f m) : SndS K Γ E rm M (tAsg te (gName i)) (sSet i f) (M.set i m) [i] := fun S0 H0 S H σ δ Dn o w ef k => by
  unfold sSet at ef
  cases q : f δ with
  | none => rw [q] at ef; cases ef
  | some d =>
    rw [q] at ef; cases ef
    refine h S0 H0 S H σ δ _ d w q fun v S1 H1 x1 r1 fr => ?_
    refine k S1 H1 (σ.set i (some v)) x1.ss ((w.mono x1).store hi ?_ r1 (fun z a ev => w.ext.hh.free (fr z a ev)) fun z a ev j dj hj mj hs => ?_) Fr.set
    · rcases hm with hm | hm
      · cases m <;> first | exact .inl rfl | exact .inr (.inr rfl) | cases hm
      · exact .inr (.inl hm)
    · obtain ⟨v', hv', rj⟩ := w.slot j dj hj
      rw [hv'] at hs
      have e : v' = .ref a := Option.some.inj (Option.some.inj hs)
      rw [mj] at rj
      obtain ⟨a', e', _, tj⟩ := rj
      obtain ⟨oj, hoj⟩ := tj.there
      rw [e] at e'
      cases e'
      rw [fr z a ev] at hoj
      cases hoj
theorem ds_set {i : Nat} {x : Str} {pos' : Pos} (hN : X.N.Nodup) (he : DE Γ X M e te f m) (hM : M.set i m = M1 := by rfl) (hi : X.N[i]? = some x := by rfl) (hx : Loc X.env.scope x := by first | exact Or.inl rfl | exact Or.inr rfl) (hl : i < M.length := by decide) (hm : okS m = true ∨ m = .bo := by first | exact Or.inl rfl | exact Or.inr rfl) (hs : swapsWith e (some (.Name x pos')) pos.line X.env = pure false := by rfl) (hf : X.fn x = true ∨ X.env.scope.names.lookup x = some .local := by first | exact .inl rfl | exact .inr rfl | assumption) :
    DS Γ X E rm M (.Assign [.Name x pos'] e pos) (tAsg te (gName i)) (sSet i f) M1 [i] := ⟨ps_set hN hi hx he.pe hs hf, hM ▸ snd_set hl hm he.snd⟩
def sRet (f : Ev) : Sv := fun δ => (f δ).map .rt
theorem ds_ret (he : DE Γ X M e te f rm) : DS Γ X E rm M (.Return (some e) pos) (tRet te) (sRet f) M1 [] := ⟨ps_ret he.pe, fun S0 H0 S H σ δ Dn o w ef k => by
  unfold sRet at ef
  cases q : f δ with
  | none => rw [q] at ef; cases ef
  | some d =>
    rw [q] at ef; cases ef
    exact he.snd S0 H0 S H σ δ _ d w q fun v S1 H1 x1 r1 fr => k v S1 H1 (w.ext.trans x1) r1 fun z a ev => w.ext.hh.free (fr z a ev)⟩
/-- an owned name is handed back -/
theorem ds_retO {i : Nat} {x : Str} {p' : Pos} (hM : md M i = .ow := by rfl) (hN : X.N[i]? = some x := by rfl) (hv : Vis X.env.scope x := by first | exact Or.inl rfl | exact Or.inr (Or.inl rfl) | exact Or.inr (Or.inr rfl)) (hd : (x == ("__debug__" : Str)) = false := by decide) (hcd : (x == ("__classdict__" : Str)) = false := by decide) :
    DS Γ X E .ow M (.Return (some (.Name x p')) pos) (tRet (tVar i)) (sRet (vVar i)) M1 [] := ⟨ps_ret (pe_var hN hv hd hcd), fun S0 H0 S H σ δ Dn o w ef k => by
  unfold sRet at ef
  cases q : vVar i δ with
  | none => rw [q] at ef; cases ef
  | some d =>
    rw [q] at ef; cases ef
    have e : δ[i]? = some (some d) := by
      unfold vVar at q
      cases z : δ[i]? with
      | none => rw [z] at q; cases q
      | some o => rw [z] at q; cases o with
        | none => cases q
        | some x => cases q; rfl
    obtain ⟨v, hv, r⟩ := w.slot i d e
    rw [hM] at r
    exact ⟨v, hv, k v S H w.ext r fun _ a ev => w.own i d a e hM (by rw [← ev]; exact hv)⟩⟩
def sRetN : Sv := fun _ => some (.rt .non)
theorem ds_retN : DS Γ X E .sh M (.Return none pos) tRetN sRetN M1 [] := ⟨ps_retN, fun S0 H0 S H σ δ Dn o w ef k => by
  cases ef
  exact k .non S H w.ext rfl fun z => by cases z⟩
def sIf (p : Env → Option Bool) (s s' : Sv) : Sv := fun δ => (p δ).bind fun b => if b = true then s δ else s' δ
theorem Fin.up {K : PySem.W.Frag} {S0 H0 S : Hp} {σ : St} {M' : List Mode} {o : Out} {Dn : Ends} (h : Fin K Γ S0 H0 S E rm M' ws σ o Dn) (q : ∀ j ∈ wt, j ∈ ws) : Fin K Γ S0 H0 S E rm M' wt σ o Dn := by
  cases o with
  | nx δ => exact fun S' H' σ' s1 w fr => h S' H' σ' s1 w (fr.up q)
  | rt d => exact h
  | ex c fs => exact fun cls dd S' H' σ' s1 w fr => h cls dd S' H' σ' s1 w (fr.up q)
theorem ds_if (hc : DT Γ X M c tc p) (ha : DSs Γ X E rm M body t s M1 ws) (hb : DSs Γ X E rm M els u s' M1 wt) : DS Γ X E rm M (.If c body els pos) (tIfS tc t u) (sIf p s s') M1 (ws ++ wt) := ⟨ps_if hc.pt ha.pss hb.pss, fun S0 H0 S H σ δ Dn o w ef k => by
  obtain ⟨b, e1, e2⟩ := bind_some ef
  refine hc.snd S0 H0 S H σ δ _ b w e1 fun S1 H1 x1 => ?_
  cases b with
  | true => rw [if_pos rfl] at e2 ⊢; exact ha.snd S0 H0 S1 H1 σ δ Dn o (w.mono x1) e2 ((k.ss x1.ss).up fun j => List.mem_append_left _)
  | false => rw [if_neg Bool.false_ne_true] at e2 ⊢; exact hb.snd S0 H0 S1 H1 σ δ Dn o (w.mono x1) e2 ((k.ss x1.ss).up fun j => List.mem_append_right _)⟩
/-- a block that always hands back (or raises) may be said to end in any modes -/
theorem DSs.any (h : DSs Γ X E rm M rest u s' M2 ws) (hn : ∀ δ δ', s' δ ≠ some (.nx δ')) : DSs Γ X E rm M rest u s' M1 ws := ⟨h.pss, fun S0 H0 S H σ δ Dn o w ef k => by
  refine h.snd S0 H0 S H σ δ Dn o w ef ?_
  cases o with
  | nx δ1 => exact (hn _ _ ef).elim
  | rt d => exact k
  | ex c fs => exact k⟩
/-- an expression alone: its value is dropped -/
def sExpr (f : Ev) : Sv := fun δ => (f δ).map fun _ => .nx δ
theorem ds_expr (he : DE Γ X M e te f m) (hs : swapsWith e none pos.line X.env = pure false := by rfl) : DS Γ X E rm M (.Expr e pos) (tDrop te) (sExpr f) M [] := ⟨ps_expr he.pe hs, fun S0 H0 S H σ δ Dn o w ef k => by
  unfold sExpr at ef
  cases q : f δ with
  | none => rw [q] at ef; cases ef
  | some d =>
    rw [q] at ef; cases ef
    exact he.snd S0 H0 S H σ δ _ d w q fun v S1 H1 x1 r1 fr => k S1 H1 σ x1.ss (w.mono x1) Fr.refl⟩
end
end Dl
/-! targets, what is walked, for, while, comprehensions. -/
namespace Dl
open PySem L2
/-! ### targets -/
abbrev Hv := D → Env → Option Env
def SndG (K : PySem.W.Frag) (Γ : CM) (M : List Mode) (g : TG) (h : Hv) (M1 : List Mode) (ws : List Nat) : Prop :=
  ∀ S0 H0 S H σ δ v d Q δ1, Wd K Γ S0 H0 S H σ M δ → Rep K Γ S d v → h d δ = some δ1 → (∀ σ', Wd K Γ S0 H0 S H σ' M1 δ1 → (∀ vs, (∀ i ∈ ws, i ∈ vs) → wipe σ' vs = wipe σ vs) → Q σ' H) → g v σ H Q
structure DG (Γ : CM) (X : Cx) (M : List Mode) (tg : Expr) (g : TG) (h : Hv) (M1 : List Mode) (ws : List Nat) : Prop where
  pg : PG X tg g
  snd : SndG X.K Γ M g h M1 ws
def SndGs (K : PySem.W.Frag) (Γ : CM) (M : List Mode) (g : TGs) (h : List D → Env → Option Env) (M1 : List Mode) (ws : List Nat) : Prop :=
  ∀ S0 H0 S H σ δ vs ds Q δ1, Wd K Γ S0 H0 S H σ M δ → RepL K Γ S ds vs → h ds δ = some δ1 → (∀ σ', Wd K Γ S0 H0 S H σ' M1 δ1 → (∀ vs, (∀ i ∈ ws, i ∈ vs) → wipe σ' vs = wipe σ vs) → Q σ' H) → g vs σ H Q
structure DGs (Γ : CM) (X : Cx) (M : List Mode) (tg : List Expr) (g : TGs) (h : List D → Env → Option Env) (M1 : List Mode) (ws : List Nat) : Prop where
  pgs : PGs X tg g
  snd : SndGs X.K Γ M g h M1 ws
theorem wipe_get (σ : St) : ∀ (vs : List Nat) (j : Nat), (wipe σ vs)[j]? = if j ∈ vs ∧ j < σ.length then some none else σ[j]?
  | [], j => by rw [if_neg (by simp)]; rfl
  | v :: vs, j => by
    unfold wipe
    by_cases hv : v = j
    · subst hv
      by_cases hl : v < σ.length
      · rw [List.getElem?_set_self (by rw [wipe_length]; exact hl), if_pos ⟨by simp, hl⟩]
      · rw [List.getElem?_eq_none (by rw [List.length_set, wipe_length]; omega), if_neg (fun z => hl z.2), List.getElem?_eq_none (by omega)]
    · rw [List.getElem?_set_ne hv, wipe_get σ vs j]
      by_cases hj : j ∈ vs ∧ j < σ.length
      · rw [if_pos hj, if_pos ⟨List.mem_cons_of_mem _ hj.1, hj.2⟩]
      · rw [if_neg hj, if_neg (fun z => hj ⟨(List.mem_cons.mp z.1).resolve_left (fun e => hv e.symm), z.2⟩)]
theorem wipe_set {σ : St} {i : Nat} {o : Option V} {vs : List Nat} (h : i ∈ vs) : wipe (σ.set i o) vs = wipe σ vs := by
  apply List.ext_getElem?
  intro j
  rw [wipe_get, wipe_get, List.length_set]
  by_cases hj : j ∈ vs ∧ j < σ.length
  · rw [if_pos hj, if_pos hj]
  · rw [if_neg hj, if_neg hj]
    by_cases e : i = j
    · subst e
      have hl : ¬ i < σ.length := fun z => hj ⟨h, z⟩
      rw [List.getElem?_eq_none (by rw [List.length_set]; omega), List.getElem?_eq_none (by omega)]
    · rw [List.getElem?_set_ne e]
theorem wipe_wipe (σ : St) (vs : List Nat) : wipe (wipe σ vs) vs = wipe σ vs := by
  apply List.ext_getElem?
  intro j
  rw [wipe_get, wipe_get, wipe_length]
  by_cases hj : j ∈ vs ∧ j < σ.length
  · rw [if_pos hj, if_pos hj]
  · rw [if_neg hj, if_neg hj]
section
variable {X : Cx} {Γ : CM} {M M1 M2 : List Mode} {tg e a b : Expr} {es : List Expr} {g : TG} {gs : TGs} {h : Hv} {hs : List D → Env → Option Env} {ws ws' : List Nat} {pos : Pos} {K : PySem.W.Frag}
def hName (i : Nat) : Hv := fun d δ => some (δ.set i (some d))
theorem snd_name {i : Nat} (hl : i < M.length) : SndG K Γ M (gName i) (hName i) (M.set i .sh) [i] := fun S0 H0 S H σ δ v d Q δ1 w r e k => by
  cases e
  exact k _ (w.store hl (.inl rfl) r (fun z => by cases z) fun z => by cases z) fun vs hv => wipe_set (hv i (by simp))
theorem dg_name {i : Nat} {x : Str} (hN : X.N.Nodup) (hM : M.set i .sh = M1 := by rfl) (hi : X.N[i]? = some x := by rfl) (hx : Loc X.env.scope x := by first | exact Or.inl rfl | exact Or.inr rfl) (hl : i < M.length := by decide) (hf : X.fn x = true ∨ X.env.scope.names.lookup x = some .local := by first | exact .inl rfl | exact .inr rfl | assumption) :
    DG Γ X M (.Name x pos) (gName i) (hName i) M1 [i] := ⟨pg_name hN hi hx hf, hM ▸ snd_name hl⟩
def hNil : List D → Env → Option Env := fun ds δ => match ds with | [] => some δ | _ => none
def hCons (h : Hv) (hs : List D → Env → Option Env) : List D → Env → Option Env := fun ds δ => match ds with | d :: ds => (h d δ).bind (hs ds) | [] => none
theorem dgs_nil : DGs Γ X M [] gNil hNil M [] := ⟨pgs_nil, fun S0 H0 S H σ δ vs ds Q δ1 w r e k => by
  cases ds with
  | nil => cases e; exact ⟨r, k σ w fun _ _ => rfl⟩
  | cons d ds => cases e⟩
theorem dgs_cons (h1 : DG Γ X M e g h M1 ws) (h2 : DGs Γ X M1 es gs hs M2 ws') (hs' : (assignEach (e :: es) X.env).map (·.2) = assign e X.env :: (assignEach es X.env).map (·.2) := by rfl) : DGs Γ X M (e :: es) (gCons g gs) (hCons h hs) M2 (ws ++ ws') :=
  ⟨pgs_cons h1.pg h2.pgs hs', fun S0 H0 S H σ δ vs ds Q δ1 w r e k => by
    cases ds with
    | nil => cases e
    | cons d ds =>
      obtain ⟨v, vr, ev, r1, r2⟩ := r
      obtain ⟨δ2, e1, e2⟩ := bind_some e
      refine ⟨v, vr, ev, h1.snd S0 H0 S H σ δ v d _ δ2 w r1 e1 fun σ1 w1 u1 => ?_⟩
      exact h2.snd S0 H0 S H σ1 δ2 vr ds Q δ1 w1 r2 e2 fun σ2 w2 u2 => k σ2 w2 fun us hu => (u2 us fun i hi => hu i (List.mem_append_right _ hi)).trans (u1 us fun i hi => hu i (List.mem_append_left _ hi))⟩
def hTup (n : Nat) (hs : List D → Env → Option Env) : Hv := fun d δ => match d with | .tup ds => if ds.length = n then hs ds δ else none | _ => none
theorem dg_tup {k n : Nat} (hc : X.calm = true) (h : DGs Γ X M es gs hs M1 ws) (hn : (assignEach es X.env).length = n := by rfl) (hst : (assignEach es X.env).findIdx? (·.1) = none := by rfl) : DG Γ X M (.Tuple es k pos) (gTup X.K n gs) (hTup n hs) M1 ws :=
  ⟨pg_tup hc h.pgs hn hst, fun S0 H0 S H σ δ v d Q δ1 w r e kk => by
    cases d with
    | tup ds =>
      obtain ⟨a, vs, ev, hq, hl, rl⟩ := r
      have e' : (if ds.length = n then hs ds δ else none) = some δ1 := e
      by_cases c : ds.length = n
      · rw [if_pos c] at e'
        exact ⟨a, vs, ev, SqT.of (w.sH _ _ hq), by rw [rl.length]; exact c, h.snd S0 H0 S H σ δ vs ds Q δ1 w rl e' kk⟩
      · rw [if_neg c] at e'; cases e'
    | _ => cases e⟩
theorem fr_wipe {σ σ' : St} (u : ∀ vs, (∀ i ∈ ws, i ∈ vs) → wipe σ' vs = wipe σ vs) : Fr ws σ σ' := by
  have e0 := u ws fun _ h => h
  refine ⟨?_, fun j hj => ?_⟩
  · have := congrArg List.length e0
    rwa [wipe_length, wipe_length] at this
  · have e := congrArg (fun l => l[j]?) e0
    simp only [wipe_get] at e
    rw [if_neg (fun z => hj z.1), if_neg (fun z => hj z.1)] at e
    exact e
/-- target = value -/
def sAsg (f : Ev) (h : Hv) : Sv := fun δ => (f δ).bind fun d => (h d δ).map .nx
theorem ds_asg {E : WX} {rm m : Mode} {te : TE} {f : Ev} (he : DE Γ X M e te f m) (hg : DG Γ X M tg g h M1 ws) (hm : okS m = true := by rfl) (hs : swapsWithSole [tg] e pos.line X.env = pure false := by rfl) (hw : swappedStores [tg] e X.env = pure none := by rfl)
    (h1 : (assignEach [tg] X.env).map (·.2) = [assign tg X.env] := by rfl) : DS Γ X E rm M (.Assign [tg] e pos) (tAsg te g) (sAsg f h) M1 ws := ⟨ps_asg he.pe hg.pg hs hw h1, fun S0 H0 S H σ δ Dn o w ef k => by
  obtain ⟨d, e1, e2⟩ := bind_some ef
  cases q : h d δ with
  | none => rw [q] at e2; cases e2
  | some δ1 =>
    rw [q] at e2; cases e2
    refine (he.snd.sh hm) S0 H0 S H σ δ _ d w e1 fun v S1 H1 x1 r1 _ => ?_
    exact hg.snd S0 H0 S1 H1 σ δ v d _ δ1 (w.mono x1) r1 q fun σ' w' u => k S1 H1 σ' x1.ss w' (fr_wipe u)⟩
end

/-! ### what is walked -/
structure ItAt (K : PySem.W.Frag) (Γ : CM) (J : It) (ds : List D) (S H : Hp) : Prop where
  go : ∀ i d, ds[i]? = some d → J.go i H ∧ ∀ x H2, J.yld i H x H2 → ∃ S2, Ext S H S2 H2 ∧ Rep K Γ S2 d x
  stop : J.stop ds.length H
def ItOk (K : PySem.W.Frag) (Γ : CM) (S0 H0 S1 : Hp) (J : It) (ds : List D) : Prop := ds.length ≤ sizeLine ∧ ∀ S H, Ext S0 H0 S H → Same S1 S → ItAt K Γ J ds S H
def SndI (K : PySem.W.Frag) (Γ : CM) (M : List Mode) (wi : TI) (f : Env → Option (List D)) : Prop :=
  ∀ S0 H0 S H σ δ R ds, Wd K Γ S0 H0 S H σ M δ → f δ = some ds → (∀ J S1 H1, Ext S H S1 H1 → ItOk K Γ S0 H0 S1 J ds → R J H1) → wi σ H R
structure DI (Γ : CM) (X : Cx) (M : List Mode) (tg iter : Expr) (wi : TI) (f : Env → Option (List D)) : Prop where
  pi : PI X tg iter wi
  snd : SndI X.K Γ M wi f
section
variable {X : Cx} {Γ : CM} {M M1 M2 : List Mode} {tg e a b iter : Expr} {es : List Expr} {te ta tb : TE} {f : Ev} {m ma mb : Mode} {g : TG} {h : Hv} {ws : List Nat} {pos : Pos} {K : PySem.W.Frag}
/-- a list that stands through the loop -/
def okI : Mode → Bool
  | .rd => false
  | _ => true
def iLstF (f : Ev) : Env → Option (List D) := fun δ => (f δ).bind fun d => match d with | .lst ds => some ds | .scr ns => some (ns.map D.int) | _ => none
theorem len_scr {n : Nat} (h : n ≤ 63) : n ≤ sizeLine := Nat.le_trans h (by decide)
theorem itl_at {S H : Hp} {p : Addr} {vs : List V} {ds : List D} (hq : SqL K H p vs) (r : RepL K Γ S ds vs) (sh : Same S H) : ItAt K Γ (Itl K p) ds S H := by
  refine ⟨fun i d hd => ?_, ⟨vs, hq, by rw [r.length]; exact Nat.le_refl _⟩⟩
  obtain ⟨v, hv, rv⟩ := r.get hd
  refine ⟨⟨vs, v, hq, hv⟩, fun x H2 y => ?_⟩
  obtain ⟨e1, y⟩ := y
  subst e1
  have e2 : x = v := Option.some.inj ((y vs hq).symm.trans hv)
  exact ⟨S, Ext.refl sh, e2 ▸ rv⟩
theorem di_list (ha : DE Γ X M e te f m) (hm : okI m = true := by rfl) : DI Γ X M tg e (iList X.K te) (iLstF f) := ⟨pi_list ha.pe, fun S0 H0 S H σ δ R ds w ef k => by
  obtain ⟨d, e1, e2⟩ := bind_some ef
  have fin : ∀ v S1 H1, Ext S H S1 H1 → (Rep X.K Γ S1 d v ∨ ∃ p, v = .ref p ∧ TopAt X.K Γ S1 H0 p d) → ∃ p, v = .ref p ∧ (∃ xs, SqL X.K H1 p xs) ∧ R (Itl X.K p) H1 := fun v S1 H1 x1 r => by
    have w1 := w.mono x1
    cases d with
    | lst es =>
      cases e2
      rcases r with ⟨p, vs, ev, hp, hl, rl⟩ | ⟨p, ev, vs, hp, hl, rl⟩
      · exact ⟨p, ev, ⟨vs, SqL.of (x1.sh _ _ hp)⟩, k _ S1 H1 x1 ⟨hl, fun S2 H2 x2 s2 => itl_at (SqL.of (x2.sh _ _ (s2 _ _ hp))) (rl.mono s2) x2.sh⟩⟩
      · exact ⟨p, ev, ⟨vs, SqL.of (w1.h0 _ _ hp)⟩, k _ S1 H1 x1 ⟨hl, fun S2 H2 x2 s2 => itl_at (SqL.of (x2.hh _ _ hp)) (rl.mono s2) x2.sh⟩⟩
    | scr ns =>
      cases e2
      rcases r with ⟨p, ev, hp, hl⟩ | ⟨p, ev, t⟩
      · refine ⟨p, ev, ⟨_, x1.sh.seq hp⟩, k _ S1 H1 x1 ⟨by rw [List.length_map]; exact len_scr hl, fun S2 H2 x2 s2 => itl_at (x2.sh.seq (s2.seq hp)) (RepL.ints ns) x2.sh⟩⟩
      · exact t.elim
    | _ => cases e2
  cases m with
  | rd => cases hm
  | sh => exact ha.snd S0 H0 S H σ δ _ d w e1 fun v S1 H1 x1 r1 _ => fin v S1 H1 x1 (.inl r1)
  | bo => exact ha.snd S0 H0 S H σ δ _ d w e1 fun v S1 H1 x1 r1 _ => fin v S1 H1 x1 r1
  | ow => exact ha.snd.share S0 H0 S H σ δ _ d w e1 fun v S1 H1 x1 r1 _ => fin v S1 H1 x1 (.inl r1)⟩
/-- a tuple; a text -/
def iTupF (f : Ev) : Env → Option (List D) := fun δ => (f δ).bind fun d => match d with | .tup ds => some ds | .ktup ds => some ds | _ => none
theorem itt_at {S H : Hp} {p : Addr} {vs : List V} {ds : List D} (hq : SqT K H p vs) (r : RepL K Γ S ds vs) (sh : Same S H) : ItAt K Γ (Itt K p) ds S H := by
  refine ⟨fun i d hd => ?_, ⟨vs, hq, by rw [r.length]; exact Nat.le_refl _⟩⟩
  obtain ⟨v, hv, rv⟩ := r.get hd
  refine ⟨⟨vs, v, hq, hv⟩, fun x H2 y => ?_⟩
  obtain ⟨e1, y⟩ := y
  subst e1
  have e2 : x = v := Option.some.inj ((y vs hq).symm.trans hv)
  exact ⟨S, Ext.refl sh, e2 ▸ rv⟩
theorem di_tup (ha : DE Γ X M e te f m) : DI Γ X M tg e (iTup X.K te) (iTupF f) := ⟨pi_tup ha.pe, fun S0 H0 S H σ δ R ds w ef k => by
  obtain ⟨d, e1, e2⟩ := bind_some ef
  refine ha.snd S0 H0 S H σ δ _ d w e1 fun v S1 H1 x1 r1 _ => ?_
  have w1 := w.mono x1
  cases d with
  | tup es =>
    cases e2
    obtain ⟨p, vs, ev, hp, hl, rl⟩ := r1.tup w1.h0
    exact ⟨p, ev, ⟨vs, SqT.of (x1.sh _ _ hp)⟩, k _ S1 H1 x1 ⟨hl, fun S2 H2 x2 s2 => itt_at (SqT.of (x2.sh _ _ (s2 _ _ hp))) (rl.mono s2) x2.sh⟩⟩
  | ktup es =>
    cases e2
    obtain ⟨p, vs, ev, hp, hl, rl⟩ := r1.ktup w1.h0
    exact ⟨p, ev, ⟨vs, Same.sqt x1.sh hp⟩, k _ S1 H1 x1 ⟨hl, fun S2 H2 x2 s2 => itt_at (Same.sqt x2.sh (Same.sqt s2 hp)) (rl.mono s2) x2.sh⟩⟩
  | _ => cases e2⟩
def signs (x : Str) : List D := x.cps.toList.map fun c => D.str ⟨#[c]⟩
def iStrF (f : Ev) : Env → Option (List D) := fun δ => (f δ).bind fun d => match d with | .str x => some (signs x) | _ => none
theorem one_le : 1 ≤ sizeLine := by decide
theorem di_str (ha : DE Γ X M e te f m) : DI Γ X M tg e (iStr te) (iStrF f) := ⟨pi_str ha.pe, fun S0 H0 S H σ δ R ds w ef k => by
  obtain ⟨d, e1, e2⟩ := bind_some ef
  refine ha.snd S0 H0 S H σ δ _ d w e1 fun v S1 H1 x1 r1 _ => ?_
  have w1 := w.mono x1
  cases d with
  | str x =>
    cases e2
    obtain ⟨ev, hl⟩ := r1.str w1.h0
    have ln : (signs x).length = x.cps.size := by unfold signs; rw [List.length_map]; simp
    refine ⟨x, ev, k _ S1 H1 x1 ⟨by rw [ln]; exact hl, fun S2 H2 x2 s2 => ⟨fun i d hd => ?_, by rw [ln]; exact Nat.le_refl _⟩⟩⟩
    unfold signs at hd
    rw [List.getElem?_map] at hd
    cases q : x.cps.toList[i]? with
    | none => rw [q] at hd; cases hd
    | some c =>
      rw [q] at hd; cases hd
      have q' : x.cps[i]? = some c := by simpa using q
      refine ⟨(Array.getElem?_eq_some_iff.mp q').1, fun y H3 hy => ?_⟩
      obtain ⟨e3, c', hc', ey⟩ := hy
      subst e3
      rw [q'] at hc'
      cases hc'
      exact ⟨S2, Ext.refl x2.sh, ey, one_le⟩
  | _ => cases e2⟩
/-- range(n); range(a, b) -/
def rngD (lo : Int) (n : Nat) : List D := (List.range n).map fun (i : Nat) => D.int (lo + (i : Int))
theorem itr_at {S H : Hp} {lo : Int} {n : Nat} (sh : Same S H) : ItAt K Γ (Itr lo n) (rngD lo n) S H := by
  have ln : (rngD lo n).length = n := by unfold rngD; rw [List.length_map, List.length_range]
  refine ⟨fun i d hd => ?_, by rw [ln]; exact Nat.le_refl _⟩
  have hi : i < n := by rw [← ln]; exact (List.getElem?_eq_some_iff.mp hd).1
  have ed : D.int (lo + (i : Int)) = d := by
    unfold rngD at hd
    rw [List.getElem?_map, List.getElem?_range hi] at hd
    exact Option.some.inj hd
  refine ⟨hi, fun x H2 y => ?_⟩
  obtain ⟨e1, e2⟩ := y
  subst e1 e2 ed
  exact ⟨S, Ext.refl sh, rfl⟩
def iRngF1 (f : Env → Option (List D)) : Env → Option (List D) := fun δ => (f δ).bind fun ds => match ds with | [.int j] => if -1000000 ≤ j ∧ j ≤ 1000000 then some (rngD 0 j.toNat) else none | _ => none
def iRngF2 (f : Env → Option (List D)) : Env → Option (List D) := fun δ => (f δ).bind fun ds => match ds with | [.int i, .int j] => if -1000000 ≤ i ∧ i ≤ 1000000 ∧ -1000000 ≤ j ∧ j ≤ 1000000 then some (rngD i (j - i).toNat) else none | _ => none

theorem rngD_len (lo : Int) (n : Nat) : (rngD lo n).length = n := by unfold rngD; rw [List.length_map, List.length_range]
theorem million : 2000000 ≤ sizeLine := by decide
variable {tr : TA} {fr : Env → Option (List D)} {ms : List Mode}
theorem ArgMs.one {S H : Hp} {m : Mode} {i : Int} {vs : List V} (r : ArgMs K Γ S H [m] [.int i] vs) : vs = [.int i] := by
  obtain ⟨d, ds, v, vs', e1, e2, r, e3, e4⟩ := r
  cases e1
  subst e2 e4
  cases m with
  | sh => rw [show v = V.int i from r]
  | _ =>
    rcases r with r | ⟨a, _, t⟩
    · rw [show v = V.int i from r]
    · exact t.elim
theorem di_rng1 {p : Pos} (hn : X.mg "range" = none) (ha : DAr Γ X M [a] tr fr ms) (hg : Gl X "range" := by rfl) (hs : starEach [a] X.env = [(false, eval a X.env)] := by rfl) : DI Γ X M tg (.Call (.Name "range" p) [a] [] pos) (iRng1 tr) (iRngF1 fr) := ⟨pi_range1 hg hn ha.pa hs, fun S0 H0 S H σ δ R ds w ef k => by
  obtain ⟨as, e1, e2⟩ := bind_some ef
  refine ha.snd S0 H0 S H σ δ _ as w e1 fun vs S1 H1 x1 r1 => ?_
  match as, e2, r1 with
  | [.int j], e2, r1 =>
    obtain ⟨hj, rfl⟩ := ite_some e2
    obtain ⟨m1, rfl⟩ : ∃ m, ms = [m] := by
      have := (r1.len).2
      match ms, this with
      | [m], _ => exact ⟨m, rfl⟩
    exact ⟨j, r1.one, by omega, by omega, k _ S1 H1 x1 ⟨by rw [rngD_len]; have := million; omega, fun S2 H2 x2 s2 => itr_at x2.sh⟩⟩⟩
theorem ArgMs.two {S H : Hp} {m m' : Mode} {i j : Int} {vs : List V} (r : ArgMs K Γ S H [m, m'] [.int i, .int j] vs) : vs = [.int i, .int j] := by
  obtain ⟨d, ds, v, vs', e1, e2, r, t⟩ := r
  cases e1
  have h2 := ArgMs.one t
  have h1 : [v] = [V.int i] := ArgMs.one (m := m) (by exact ⟨_, [], v, [], rfl, rfl, r, rfl, rfl⟩)
  subst e2 h2
  cases h1
  rfl
theorem di_rng2 {p : Pos} (hn : X.mg "range" = none) (ha : DAr Γ X M [a, b] tr fr ms) (hg : Gl X "range" := by rfl) (hs : starEach [a, b] X.env = [(false, eval a X.env), (false, eval b X.env)] := by rfl) (hs2 : starEach [b] X.env = [(false, eval b X.env)] := by rfl) : DI Γ X M tg (.Call (.Name "range" p) [a, b] [] pos) (iRng2 tr) (iRngF2 fr) := ⟨pi_range2 hg hn ha.pa hs hs2, fun S0 H0 S H σ δ R ds w ef k => by
  obtain ⟨as, e1, e2⟩ := bind_some ef
  refine ha.snd S0 H0 S H σ δ _ as w e1 fun vs S1 H1 x1 r1 => ?_
  match as, e2, r1 with
  | [.int i, .int j], e2, r1 =>
    obtain ⟨hj, rfl⟩ := ite_some e2
    obtain ⟨m1, m2, rfl⟩ : ∃ m m', ms = [m, m'] := by
      have := (r1.len).2
      match ms, this with
      | [m, m'], _ => exact ⟨m, m', rfl⟩
    exact ⟨i, j, r1.two, by omega, k _ S1 H1 x1 ⟨by rw [rngD_len]; have := million; omega, fun S2 H2 x2 s2 => itr_at x2.sh⟩⟩⟩

/-! ### for -/
def forD (set : Hv) (body : Sv) : List D → Sv
  | [], δ => some (.nx δ)
  | d :: ds, δ => (set d δ).bind fun δ1 => (body δ1).bind fun o => match o with | .nx δ2 => forD set body ds δ2 | o => some o
def sFor (it : Env → Option (List D)) (set : Hv) (body : Sv) : Sv := fun δ => (it δ).bind fun ds => forD set body ds δ
theorem snd_for {wt : List Nat} {E : WX} {rm : Mode} {wi : TI} {it : Env → Option (List D)} {tb : TS} {body : Sv} (hi : SndI K Γ M wi it) (hg : SndG K Γ M g h M1 ws) (hb : SndS K Γ E rm M1 tb body M wt) : SndS K Γ E rm M (tFor wi g tb) (sFor it h body) M (ws ++ wt) := fun S0 H0 S H σ0 δ Dn o w ef k => by
  obtain ⟨ds, e1, e2⟩ := bind_some ef
  refine hi S0 H0 S H σ0 δ _ ds w e1 fun J S1 H1 x1 ok => ?_
  refine ⟨fun i m σ H => m = ds.length - i ∧ i ≤ ds.length ∧ ∃ S2 δ2, Wd K Γ S0 H0 S2 H σ M δ2 ∧ Same S1 S2 ∧ forD h body (ds.drop i) δ2 = some o ∧ Fr (ws ++ wt) σ0 σ, ⟨_, rfl, Nat.zero_le _, S1, δ, w.mono x1, Same.refl _, e2, Fr.refl⟩, ?_⟩
  rintro i m σ2 H2 ⟨rfl, hi', S2, δ2, w2, s2, e3, f2⟩
  have at_ := ok.2 S2 H2 w2.ext s2
  by_cases hlt : i < ds.length
  · refine .inr ⟨(at_.go i ds[i] (List.getElem?_eq_getElem hlt)).1, fun σ' H' => ∃ S3 δ3, Wd K Γ S0 H0 S3 H' σ' M δ3 ∧ Same S1 S3 ∧ forD h body (ds.drop (i + 1)) δ3 = some o ∧ Fr (ws ++ wt) σ0 σ', fun σ' H' ⟨S3, δ3, w3, s3, e4, f4⟩ => ⟨ds.length - (i + 1), by omega, rfl, hlt, S3, δ3, w3, s3, e4, f4⟩, fun x H3 y => ?_⟩
    obtain ⟨S3, x3, r3⟩ := (at_.go i ds[i] (List.getElem?_eq_getElem hlt)).2 x H3 y
    rw [List.drop_eq_getElem_cons hlt] at e3
    obtain ⟨δ4, e4, e5⟩ := bind_some e3
    obtain ⟨o5, e6, e7⟩ := bind_some e5
    refine hg S0 H0 S3 H3 σ2 δ2 x ds[i] _ δ4 (w2.mono x3) r3 e4 fun σ4 w4 u4 => ?_
    have f4 : Fr (ws ++ wt) σ0 σ4 := f2.same ((fr_wipe u4).up fun j => List.mem_append_left _)
    refine hb S0 H0 S3 H3 σ4 δ4 _ o5 w4 e6 ?_
    cases o5 with
    | nx δ5 => exact fun S5 H5 σ5 s5 w5 f5 => ⟨S5, δ5, w5, (s2.trans x3.ss).trans s5, e7, f4.same (f5.up fun j => List.mem_append_right _)⟩
    | rt d => cases e7; exact k
    | ex c fs => cases e7; exact fun cls dd S' H' σ' s5 w5 f5 => k cls dd S' H' σ' (((x1.ss.trans s2).trans x3.ss).trans s5) w5 (f4.same (f5.up fun j => List.mem_append_right _))
  · have e : i = ds.length := by omega
    subst e
    rw [List.drop_length] at e3
    cases e3
    exact .inl ⟨at_.stop, k S2 H2 σ2 (x1.ss.trans s2) w2 f2⟩
theorem ds_for {wt : List Nat} {E : WX} {rm : Mode} {wi : TI} {it : Env → Option (List D)} {body : List Stmt} {tb : TS} {s : Sv} (hp : PassesOwn (model X.prog X.w) X.A X.env X.xe) (hc : X.calm = true) (hi : DI Γ X M tg iter wi it) (hg : DG Γ X M tg g h M1 ws) (hb : DSs Γ X E rm M1 body tb s M wt)
    (hs : ∀ x, foldedSetIterable iter X.env x = pure x := by intro _; rfl) : DS Γ X E rm M (.For tg iter body [] pos) (tFor wi g tb) (sFor it h s) M (ws ++ wt) := ⟨ps_for hp hc hi.pi hg.pg hb.pss hs, snd_for hi.snd hg.snd hb.snd⟩

/-! ### while -/
def whileD (p : Env → Option Bool) (body : Sv) : Nat → Sv
  | 0, _ => none
  | n + 1, δ => (p δ).bind fun b => if b = true then (body δ).bind fun o => match o with | .nx δ1 => whileD p body n δ1 | o => some o else some (.nx δ)
def fuel : Nat := 2 ^ 40
def sWhile (p : Env → Option Bool) (body : Sv) : Sv := whileD p body fuel
theorem whileD_mono {p : Env → Option Bool} {body : Sv} : ∀ {n k : Nat} {δ : Env} {o : Out}, whileD p body n δ = some o → n ≤ k → whileD p body k δ = some o
  | 0, _, _, _, h, _ => by cases h
  | n + 1, 0, _, _, _, hk => by omega
  | n + 1, k + 1, δ, o, h, hk => by
    unfold whileD at h ⊢
    obtain ⟨b, e1, e2⟩ := bind_some h
    rw [e1, Option.bind_some]
    by_cases hb : b = true
    · rw [if_pos hb] at e2 ⊢
      obtain ⟨o1, e3, e4⟩ := bind_some e2
      rw [e3, Option.bind_some]
      cases o1 with
      | nx δ1 => exact whileD_mono e4 (by omega)
      | rt d => exact e4
      | ex c fs => exact e4
    · rw [if_neg hb] at e2 ⊢
      exact e2
theorem sWhile_of {p : Env → Option Bool} {body : Sv} {n : Nat} {δ : Env} {o : Out} (h : whileD p body n δ = some o) (hn : n ≤ fuel) : sWhile p body δ = some o := whileD_mono h hn
theorem snd_while {wt : List Nat} {E : WX} {rm : Mode} {tc : TT} {p : Env → Option Bool} {tb : TS} {body : Sv} (hc : SndT K Γ M tc p) (hb : SndS K Γ E rm M tb body M wt) : SndS K Γ E rm M (tWhile tc tb) (sWhile p body) M wt := fun S0 H0 S H σ0 δ Dn o w ef k => by
  refine ⟨fun m σ H => ∃ S2 δ2, Wd K Γ S0 H0 S2 H σ M δ2 ∧ Same S S2 ∧ whileD p body m δ2 = some o ∧ Fr wt σ0 σ, ⟨fuel, S, δ, w, Same.refl _, ef, Fr.refl⟩, ?_⟩
  rintro m σ2 H2 ⟨S2, δ2, w2, s2, e2, f2⟩
  cases m with
  | zero => cases e2
  | succ n =>
    obtain ⟨b, e3, e4⟩ := bind_some e2
    refine hc S0 H0 S2 H2 σ2 δ2 _ b w2 e3 fun S3 H3 x3 => ?_
    cases b with
    | true =>
      rw [if_pos rfl] at e4 ⊢
      obtain ⟨o1, e5, e6⟩ := bind_some e4
      refine ⟨fun σ' H' => ∃ S4 δ4, Wd K Γ S0 H0 S4 H' σ' M δ4 ∧ Same S S4 ∧ whileD p body n δ4 = some o ∧ Fr wt σ0 σ', fun σ' H' q => ⟨n, Nat.lt_succ_self n, q⟩, ?_⟩
      refine hb S0 H0 S3 H3 σ2 δ2 _ o1 (w2.mono x3) e5 ?_
      cases o1 with
      | nx δ1 => exact fun S4 H4 σ4 s4 w4 f4 => ⟨S4, δ1, w4, (s2.trans x3.ss).trans s4, e6, f2.same f4⟩
      | rt d => cases e6; exact k
      | ex c fs => cases e6; exact fun cls dd S' H' σ' s5 w5 f5 => k cls dd S' H' σ' ((s2.trans x3.ss).trans s5) w5 (f2.same f5)
    | false =>
      rw [if_neg Bool.false_ne_true] at e4 ⊢
      cases e4
      exact k S3 H3 σ2 (s2.trans x3.ss) (w2.mono x3) f2
theorem ds_while {wt : List Nat} {E : WX} {rm : Mode} {c : Expr} {tc : TT} {p : Env → Option Bool} {body : List Stmt} {tb : TS} {s : Sv} (hp : PassesOwn (model X.prog X.w) X.A X.env X.xe) (hc : DT Γ X M c tc p) (hb : DSs Γ X E rm M body tb s M wt) : DS Γ X E rm M (.While c body [] pos) (tWhile tc tb) (sWhile p s) M wt :=
  ⟨ps_while hp hc.pt hb.pss, snd_while hc.snd hb.snd⟩

/-! ### comprehensions -/
def wipeE (δ : Env) : List Nat → Env
  | [] => δ
  | v :: vs => (wipeE δ vs).set v none
theorem wipeE_len (δ : Env) : ∀ vs, (wipeE δ vs).length = δ.length
  | [] => rfl
  | v :: vs => by unfold wipeE; rw [List.length_set, wipeE_len δ vs]
theorem wipeE_some {δ : Env} {i : Nat} {x : D} : ∀ {vs : List Nat}, (wipeE δ vs)[i]? = some (some x) → δ[i]? = some (some x) ∧ i ∉ vs
  | [], h => ⟨h, by simp⟩
  | v :: vs, h => by
    unfold wipeE at h
    by_cases hi : v = i
    · subst hi
      by_cases hv : v < (wipeE δ vs).length
      · rw [List.getElem?_set_self hv] at h; cases h
      · rw [List.getElem?_eq_none (by simpa using hv)] at h; cases h
    · rw [List.getElem?_set_ne hi] at h
      obtain ⟨h1, h2⟩ := wipeE_some h
      exact ⟨h1, by simp only [List.mem_cons, not_or]; exact ⟨fun e => hi e.symm, h2⟩⟩
theorem Wd.wipe {S0 H0 S H : Hp} {σ : St} {δ : Env} (w : Wd K Γ S0 H0 S H σ M δ) (vs : List Nat) : Wd K Γ S0 H0 S H (L2.wipe σ vs) M (wipeE δ vs) := by
  have key : ∀ {i : Nat} {d : D}, (wipeE δ vs)[i]? = some (some d) → (L2.wipe σ vs)[i]? = σ[i]? := fun {i d} h => by
    rw [wipe_get, if_neg (fun z => (wipeE_some h).2 z.1)]
  refine ⟨w.ext, by rw [wipe_length, wipeE_len, w.len], fun i d h => ?_, fun i d a h m s => ?_, fun i j di dj a h1 h2 m1 m2 s1 s2 => ?_, w.nord⟩
  · rw [key h]; exact w.slot i d (wipeE_some h).1
  · rw [key h] at s; exact w.own i d a (wipeE_some h).1 m s
  · rw [key h1] at s1; rw [key h2] at s2
    exact w.uniq i j di dj a (wipeE_some h1).1 (wipeE_some h2).1 m1 m2 s1 s2
def lcD (set : Hv) (p : Env → Option Bool) (elt : Ev) (δ : Env) : List D → Option (List D)
  | [] => some []
  | d :: ds => (set d δ).bind fun δ1 => (p δ1).bind fun b => if b = true then (elt δ1).bind fun y => (lcD set p elt δ ds).map (y :: ·) else lcD set p elt δ ds
def vLc (it : Env → Option (List D)) (set : Hv) (p : Env → Option Bool) (elt : Ev) (vs : List Nat) : Ev := fun δ => (it δ).bind fun ds => (lcD set p elt (wipeE δ vs) ds).map .lst
theorem lcD_len {set : Hv} {p : Env → Option Bool} {elt : Ev} {δ : Env} : ∀ {ds out : List D}, lcD set p elt δ ds = some out → out.length ≤ ds.length
  | [], out, h => by cases h; exact Nat.le_refl _
  | d :: ds, out, h => by
    obtain ⟨δ1, e1, e2⟩ := bind_some h
    obtain ⟨b, e3, e4⟩ := bind_some e2
    by_cases hb : b = true
    · rw [if_pos hb] at e4
      obtain ⟨y, e5, e6⟩ := bind_some e4
      cases q : lcD set p elt δ ds with
      | none => rw [q] at e6; cases e6
      | some o => rw [q] at e6; cases e6; exact Nat.succ_le_succ (lcD_len q)
    · rw [if_neg hb] at e4
      exact Nat.le_succ_of_le (lcD_len e4)
/-- what a comprehension walks: it stands from the walk's beginning on -/
def ItOkC (K : PySem.W.Frag) (Γ : CM) (S1 H1 : Hp) (J : It) (ds : List D) : Prop := ds.length ≤ sizeLine ∧ ∀ S H, Ext S1 H1 S H → ItAt K Γ J ds S H
def SndIC (K : PySem.W.Frag) (Γ : CM) (M : List Mode) (wi : TI) (f : Env → Option (List D)) : Prop :=
  ∀ S0 H0 S H σ δ R ds, Wd K Γ S0 H0 S H σ M δ → f δ = some ds → (∀ J S1 H1, Ext S H S1 H1 → ItOkC K Γ S1 H1 J ds → R J H1) → wi σ H R
structure DIC (Γ : CM) (X : Cx) (M : List Mode) (tg iter : Expr) (wi : TI) (f : Env → Option (List D)) : Prop where
  pi : PI X tg iter wi
  snd : SndIC X.K Γ M wi f
theorem SndI.c {wi : TI} {f : Env → Option (List D)} (h : SndI K Γ M wi f) : SndIC K Γ M wi f := fun S0 H0 S H σ δ R ds w ef k =>
  h S0 H0 S H σ δ R ds w ef fun J S1 H1 x1 ok => k J S1 H1 x1 ⟨ok.1, fun S2 H2 x2 => ok.2 S2 H2 ((w.ext.trans x1).trans x2) x2.ss⟩
theorem DI.c {wi : TI} {f : Env → Option (List D)} (h : DI Γ X M tg iter wi f) : DIC Γ X M tg iter wi f := ⟨h.pi, h.snd.c⟩
/-- a list in any mode -/
theorem dic_list {m : Mode} (ha : DE Γ X M e te f m) : DIC Γ X M tg e (iList X.K te) (iLstF f) := ⟨pi_list ha.pe, fun S0 H0 S H σ δ R ds w ef k => by
  obtain ⟨d, e1, e2⟩ := bind_some ef
  refine ha.snd S0 H0 S H σ δ _ d w e1 fun v S1 H1 x1 r1 _ => ?_
  have w1 := w.mono x1
  cases d with
  | lst es =>
    cases e2
    obtain ⟨p, vs, ev, hp, hl, rl⟩ := r1.lst x1.sh w1.h0
    exact ⟨p, ev, ⟨vs, SqL.of hp⟩, k _ S1 H1 x1 ⟨hl, fun S2 H2 x2 => itl_at (SqL.of (x2.hh _ _ hp)) (rl.mono x2.ss) x2.sh⟩⟩
  | scr ns =>
    cases e2
    obtain ⟨p, ev, hp, hl⟩ := r1.scr w1.h0
    exact ⟨p, ev, ⟨_, x1.sh.seq hp⟩, k _ S1 H1 x1 ⟨by rw [List.length_map]; exact len_scr hl, fun S2 H2 x2 => itl_at (x2.sh.seq (x2.ss.seq hp)) (RepL.ints ns) x2.sh⟩⟩
  | _ => cases e2⟩
theorem snd_lc {wi : TI} {it : Env → Option (List D)} {tt : TT} {p : Env → Option Bool} {elt : Ev} {vs : List Nat} (hi : SndIC K Γ M wi it) (hg : SndG K Γ M g h M1 ws) (hp : SndT K Γ M1 tt p) (he : SndE K Γ M1 te elt m) (hm : okS m = true) (hw : ∀ i ∈ ws, i ∈ vs) :
    SndE K Γ M (tLc wi g tt te vs) (vLc it h p elt vs) .ow := fun S0 H0 S H σ δ Q d w ef k => by
  obtain ⟨ds, e1, e2⟩ := bind_some ef
  cases q : lcD h p elt (wipeE δ vs) ds with
  | none => rw [q] at e2; cases e2
  | some out =>
    rw [q] at e2
    cases e2
    refine hi S0 H0 S H σ δ _ ds w e1 fun J S1 H1 x1 ok A hA => ?_
    have w1 := w.mono x1
    have sA : S1 A = none := Same.none x1.sh hA
    refine ⟨fun i m H' => m = ds.length - i ∧ i ≤ ds.length ∧ ∃ S2 acc vs1 rest, Ext S1 H1 S2 H' ∧ H' A = some (.lst vs1) ∧ S2 A = none ∧ RepL K Γ S2 acc vs1 ∧ acc.length ≤ i ∧ lcD h p elt (wipeE δ vs) (ds.drop i) = some rest ∧ acc ++ rest = out,
      ⟨_, rfl, Nat.zero_le _, S1, [], [], out, Ext.owned x1.sh hA _, upd_same, sA, rfl, Nat.le_refl _, q, rfl⟩, ?_⟩
    rintro i m H2 ⟨rfl, hi', S2, acc, vs1, rest, x2, hA2, sA2, r2, l2, e3, e4⟩
    have w2 := w1.mono x2
    have at_ := ok.2 S2 H2 x2
    by_cases hlt : i < ds.length
    · refine .inr ⟨(at_.go i ds[i] (List.getElem?_eq_getElem hlt)).1, fun H' => ∃ S3 acc vs1 rest, Ext S1 H1 S3 H' ∧ H' A = some (.lst vs1) ∧ S3 A = none ∧ RepL K Γ S3 acc vs1 ∧ acc.length ≤ i + 1 ∧ lcD h p elt (wipeE δ vs) (ds.drop (i + 1)) = some rest ∧ acc ++ rest = out,
        fun H' q => ⟨ds.length - (i + 1), by omega, rfl, hlt, q⟩, fun x H3 y => ?_⟩
      obtain ⟨S3, x3, r3⟩ := (at_.go i ds[i] (List.getElem?_eq_getElem hlt)).2 x H3 y
      rw [List.drop_eq_getElem_cons hlt] at e3
      obtain ⟨δ4, e5, e6⟩ := bind_some e3
      obtain ⟨b, e7, e8⟩ := bind_some e6
      refine hg S0 H0 S3 H3 _ _ x ds[i] _ δ4 ((w2.mono x3).wipe vs) r3 e5 fun σ4 w4 u4 => ⟨(u4 vs hw).trans (wipe_wipe σ vs), ?_⟩
      refine hp S0 H0 S3 H3 σ4 δ4 _ b w4 e7 fun S5 H5 x5 => ?_
      have x25 := (x2.trans x3).trans x5
      have keepA : ∀ {S' H'}, Ext S2 H2 S' H' → H' A = some (.lst vs1) ∧ S' A = none := fun {S' H'} z => ⟨z.hh _ _ hA2, z.fr A _ hA2 rfl sA2⟩
      cases b with
      | true =>
        rw [if_pos rfl] at e8 ⊢
        obtain ⟨y5, e9, e10⟩ := bind_some e8
        cases q5 : lcD h p elt (wipeE δ vs) (ds.drop (i + 1)) with
        | none => rw [q5] at e10; cases e10
        | some rest' =>
          rw [q5] at e10; cases e10
          refine (he.sh hm) S0 H0 S5 H5 σ4 δ4 _ y5 (w4.mono x5) e9 fun v6 S6 H6 x6 r6 _ => ?_
          have kA := keepA ((x3.trans x5).trans x6)
          have x26 := x25.trans x6
          have l1 : vs1.length = acc.length := r2.length
          refine ⟨vs1, kA.1, ?_, S6, acc ++ [y5], vs1 ++ [v6], rest', ⟨x26.ss, fun c o z => (upd_ne (fun e => by subst e; rw [hA] at z; cases z)).trans (x26.hh _ _ z), fun c o z => ?_, fun c o z t n => ?_⟩, upd_same, kA.2, ((r2.mono ((x3.trans x5).trans x6).ss).append (RepL.one r6)), ?_, rfl, by rw [List.append_assoc]; exact e4⟩
          · have := ok.1
            omega
          · have nc : c ≠ A := fun e => by subst e; rw [kA.2] at z; cases z
            rw [upd_ne nc]; exact x26.sh _ _ z
          · exact x26.fr c o z t n
          · rw [List.length_append, List.length_singleton]; omega
      | false =>
        rw [if_neg Bool.false_ne_true] at e8 ⊢
        have kA := keepA (x3.trans x5)
        exact ⟨S5, acc, vs1, rest, x25, kA.1, kA.2, r2.mono (x3.trans x5).ss, by omega, e8, e4⟩
    · have e : i = ds.length := by omega
      subst e
      rw [List.drop_length] at e3
      cases e3
      rw [List.append_nil] at e4
      subst e4
      refine .inl ⟨at_.stop, k _ S2 H2 (x1.trans x2) ⟨A, rfl, sA2, vs1, hA2, Nat.le_trans l2 ok.1, r2⟩ fun _ a ea => ?_⟩
      cases ea
      exact x1.hh.free hA
def tsYes : Env → Option Bool := fun _ => some true
structure DTs (Γ : CM) (X : Cx) (M : List Mode) (ifs : List Expr) (t : TT) (f : Env → Option Bool) : Prop where
  pts : PTs X ifs t
  snd : SndT X.K Γ M t f
theorem dts_nil : DTs Γ X M [] tYes tsYes := ⟨pts_nil, fun S0 H0 S H σ δ Q b w ef k => by cases ef; exact k S H (Ext.refl w.sH)⟩
theorem dts_one {c : Expr} {t : TT} {p : Env → Option Bool} (h : DT Γ X M c t p) : DTs Γ X M [c] t p := ⟨pts_one h.pt, h.snd⟩
theorem de_lc {elt : Expr} {ifs : List Expr} {scope : Scope} {own : List (Str × Nat)} {wi : TI} {it : Env → Option (List D)} {tt : TT} {p : Env → Option Bool} {fe : Ev} (hc : X.calm = true) (hN : X.N.Nodup) (ok : BlkOk X.N X.env.scope scope own) (hi : DIC Γ X M tg iter wi it)
    (hg : ∀ (s : Shared) (H : Hp) (C : Addr) (cl : List (Str × Addr)) (fp : List Addr), DG Γ (X.blk s H scope (compEnvC scope cl C X.env) fp) M tg g h M1 ws) (ht : ∀ (s : Shared) (H : Hp) (C : Addr) (cl : List (Str × Addr)) (fp : List Addr), DTs Γ (X.blk s H scope (compEnvC scope cl C X.env) fp) M1 ifs tt p)
    (he : ∀ (s : Shared) (H : Hp) (C : Addr) (cl : List (Str × Addr)) (fp : List Addr), DE Γ (X.blk s H scope (compEnvC scope cl C X.env) fp) M1 elt te fe m) (hm : okS m = true := by rfl) (hw : ∀ i ∈ ws, i ∈ own.map (·.2) := by decide) (hs : ∀ x, foldedSetIterable iter X.env x = pure x := by intro _; rfl) :
    DE Γ X M (.ListComp elt [⟨tg, iter, ifs, 0⟩] scope pos) (tLc wi g tt te (own.map (·.2))) (vLc it h p fe (own.map (·.2))) .ow :=
  ⟨pe_lc hc hN hi.pi ok (fun s H C cl fp => (hg s H C cl fp).pg) (fun s H C cl fp => (ht s H C cl fp).pts) (fun s H C cl fp => (he s H C cl fp).pe) hs,
    snd_lc hi.snd (hg X.s_0 X.H_0 0 [] []).snd (ht X.s_0 X.H_0 0 [] []).snd (he X.s_0 X.H_0 0 [] []).snd hm hw⟩
/-- name = [..] -/
theorem ds_setLc {E : WX} {rm : Mode} {Mz : List Mode} {i : Nat} {y : Str} {py spos : Pos} {elt : Expr} {ifs : List Expr} {scope : Scope} {own : List (Str × Nat)} {wi : TI} {it : Env → Option (List D)} {tt : TT} {p : Env → Option Bool} {fe : Ev} (hc : X.calm = true) (hN : X.N.Nodup) (ok : BlkOk X.N X.env.scope scope own) (hi : DIC Γ X M tg iter wi it)
    (hg : ∀ (s : Shared) (H : Hp) (C : Addr) (cl : List (Str × Addr)) (fp : List Addr), DG Γ (X.blk s H scope (compEnvC scope cl C X.env) fp) M tg g h M1 ws) (ht : ∀ (s : Shared) (H : Hp) (C : Addr) (cl : List (Str × Addr)) (fp : List Addr), DTs Γ (X.blk s H scope (compEnvC scope cl C X.env) fp) M1 ifs tt p)
    (he : ∀ (s : Shared) (H : Hp) (C : Addr) (cl : List (Str × Addr)) (fp : List Addr), DE Γ (X.blk s H scope (compEnvC scope cl C X.env) fp) M1 elt te fe m) (hM : M.set i .ow = Mz := by rfl) (hm : okS m = true := by rfl) (hw : ∀ i ∈ ws, i ∈ own.map (·.2) := by decide) (hy : X.N[i]? = some y := by rfl) (hyl : X.env.scope.names.lookup y = some .local := by rfl) (hl : i < M.length := by decide)
    (hsw : swapsWith (.ListComp elt [⟨tg, iter, ifs, 0⟩] scope pos) (some (.Name y py)) spos.line X.env = pure true := by exact sw_true rfl rfl rfl (by decide +kernel)) (hs : ∀ x, foldedSetIterable iter X.env x = pure x := by intro _; rfl) :
    DS Γ X E rm M (.Assign [.Name y py] (.ListComp elt [⟨tg, iter, ifs, 0⟩] scope pos) spos) (tAsg (tLc wi g tt te (own.map (·.2))) (gName i)) (sSet i (vLc it h p fe (own.map (·.2)))) Mz [i] :=
  ⟨ps_setLc hc hN hy hyl hsw hi.pi ok (fun s H C cl fp => (hg s H C cl fp).pg) (fun s H C cl fp => (ht s H C cl fp).pts) (fun s H C cl fp => (he s H C cl fp).pe) hs,
    hM ▸ snd_set hl (.inl rfl) (snd_lc hi.snd (hg X.s_0 X.H_0 0 [] []).snd (ht X.s_0 X.H_0 0 [] []).snd (he X.s_0 X.H_0 0 [] []).snd hm hw)⟩
end
end Dl
/-! builtins, methods, stores into owned slots, defs. -/
namespace Dl
open PySem L2
theorem callR_or {X : Cx} {f : Value} {r r' : List V → Hp → VK → Prop} (h : CallR X f r) (h' : CallR X f r') : CallR X f (fun xs H Q => r xs H Q ∨ r' xs H Q) := by
  intro pins s σ H xs us Q I r q
  rcases q with q | q
  · exact h pins s σ H xs us Q I r q
  · exact h' pins s σ H xs us Q I r q
section
variable {K : PySem.W.Frag} {Γ : CM} {S H : Hp} {m m' : Mode} {d : D} {v : V} {vs : List V}
theorem ArgMs.get1 (r : ArgMs K Γ S H [m] [d] vs) : ∃ v, vs = [v] ∧ RepM K Γ H S H .bo d v := by
  obtain ⟨d', ds, v, vs', e1, e2, r, e3, e4⟩ := r
  cases e1
  subst e2 e4
  refine ⟨v, rfl, ?_⟩
  cases m with
  | sh => exact .inl r
  | _ => exact r
theorem ArgMs.get2 {d2 : D} (r : ArgMs K Γ S H [m, m'] [d, d2] vs) : ∃ v v2, vs = [v, v2] ∧ RepM K Γ H S H .bo d v ∧ RepM K Γ H S H .bo d2 v2 := by
  obtain ⟨d', ds, v, vs', e1, e2, r, t⟩ := r
  cases e1
  obtain ⟨v2, e3, r2⟩ := ArgMs.get1 t
  subst e2 e3
  refine ⟨v, v2, rfl, ?_, r2⟩
  cases m with
  | sh => exact .inl r
  | _ => exact r
end
/-! ### len -/
def opLen : List D → Option D
  | [.lst ds] => some (.int ds.length)
  | [.tup ds] => some (.int ds.length)
  | [.ktup ds] => some (.int ds.length)
  | [.scr ns] => some (.int ns.length)
  | [.str x] => some (.int x.length)
  | _ => none
theorem cd_len {X : Cx} {Γ : CM} : CD Γ X (.builtin "len") (fun xs H Q => ∃ x n, xs = [x] ∧ LenV X.K x H n ∧ Q (.int n) H) opLen [.bo] .sh := ⟨call_len, fun S H ds vs d Q sh r e k => by
  match ds, e, r with
  | [a], e, r =>
    obtain ⟨v, rfl, r1⟩ := ArgMs.get1 r
    cases a with
    | lst es => cases e; obtain ⟨p, ws, ev, hp, hl, rl⟩ := r1.lst sh (Same.refl _); exact ⟨v, _, rfl, by rw [ev]; exact .inl ⟨ws, SqL.of hp, rl.length.symm⟩, k.flat sh rfl⟩
    | tup es => cases e; obtain ⟨p, ws, ev, hp, hl, rl⟩ := r1.tup (Same.refl _); exact ⟨v, _, rfl, by rw [ev]; exact .inr ⟨ws, SqT.of (sh _ _ hp), rl.length.symm⟩, k.flat sh rfl⟩
    | ktup es => cases e; obtain ⟨p, ws, ev, hp, hl, rl⟩ := r1.ktup (Same.refl _); exact ⟨v, _, rfl, by rw [ev]; exact .inr ⟨ws, Same.sqt sh hp, rl.length.symm⟩, k.flat sh rfl⟩
    | scr ns => cases e; obtain ⟨p, ev, hp, hl⟩ := r1.scr (Same.refl _); exact ⟨v, _, rfl, by rw [ev]; exact .inl ⟨_, sh.seq hp, by rw [List.length_map]⟩, k.flat sh rfl⟩
    | str x => cases e; obtain ⟨ev, hl⟩ := r1.str (Same.refl _); exact ⟨v, _, rfl, by rw [ev]; exact ⟨hl, rfl⟩, k.flat sh rfl⟩
    | _ => cases e⟩
/-! ### isinstance -/
def tyName : D → Option String
  | .non => some "NoneType"
  | .bl _ => some "bool"
  | .int _ => some "int"
  | .str _ => some "str"
  | .lst _ => some "list"
  | .tup _ => some "tuple"
  | .dicK _ => some "dict"
  | .dicT _ => some "dict"
  | _ => none
def isiB (a b : String) : Bool := a == b || (a == "bool" && b == "int")
def opIsi : List D → Option D
  | [d, .ty n] => (tyName d).bind fun a => if kitB a n = some (isiB a n) then some (.bl (isiB a n)) else none
  | _ => none
theorem cd_isi {X : Cx} {Γ : CM} : CD Γ X (.builtin "isinstance") (rIsi X.K) opIsi [.bo, .sh] .sh := ⟨call_isi, fun S H ds vs d Q sh r e k => by
  match ds, e, r with
  | [a, b], e, r =>
    cases b with
    | ty n =>
      obtain ⟨v, v2, rfl, r1, r2⟩ := ArgMs.get2 r
      obtain ⟨t, e1, e2⟩ := bind_some e
      obtain ⟨hk, rfl⟩ := ite_some e2
      have ev2 : v2 = .ty n := r2.flat (Same.refl _) fun _ _ t => t
      refine ⟨v, v2, .type t, .type n, _, rfl, ev2 ▸ ClsV.ty n, ?_, kit_ty hk, k.flat sh rfl⟩
      cases a with
      | non => cases e1; rw [r1.non (Same.refl _)]; exact .base .non
      | bl b => cases e1; rw [r1.bl (Same.refl _)]; exact .base (.bl b)
      | int b => cases e1; rw [r1.int (Same.refl _)]; exact .base (.int b)
      | str b => cases e1; rw [(r1.str (Same.refl _)).1]; exact .base (.str b)
      | lst b => cases e1; obtain ⟨p, ws, ev, hp, _⟩ := r1.lst sh (Same.refl _); rw [ev]; exact .base (.lst hp)
      | tup b => cases e1; obtain ⟨p, ws, ev, hp, _⟩ := r1.tup (Same.refl _); rw [ev]; exact .base (.tup (sh _ _ hp))
      | dicK b => cases e1; obtain ⟨p, ws, ev, hp, _⟩ := r1.dicK sh (Same.refl _); rw [ev]; exact .base (.dK hp)
      | dicT b => cases e1; obtain ⟨p, ws, ev, hp, _⟩ := r1.dicT sh (Same.refl _); rw [ev]; exact .base (.dT hp)
      | _ => cases e1
    | _ => cases a <;> cases e⟩
section
variable {X : Cx} {Γ : CM} {M : List Mode} {e : Expr} {pos : Pos}
/-- int, str, list .. as values -/
theorem de_ty {x : Str} {n : String} (hm : X.mg x = none) (hv : bootBuiltins x = some (.type n) := by decide +kernel) (hg : Gl X x := by rfl) (hn : x ≠ ("__name__" : Str) := by decide) (hd : (x == ("__debug__" : Str)) = false := by decide) : DE Γ X M (.Name x pos) (tC (.ty n)) (vC (.ty n)) .sh :=
  ⟨pe_bltn hg hm hv rfl hn hd, snd_c fun _ => rfl⟩
end
/-! ### min, max -/
def minL : List Int → Int
  | [] => 0
  | n :: ns => ns.foldl min n
def maxL : List Int → Int
  | [] => 0
  | n :: ns => ns.foldl max n
theorem foldl_min_le : ∀ (ns : List Int) (a : Int), ns.foldl min a ≤ a ∧ (∀ x ∈ ns, ns.foldl min a ≤ x) ∧ (ns.foldl min a = a ∨ ns.foldl min a ∈ ns)
  | [], a => ⟨Int.le_refl _, (fun _ h => by cases h), .inl rfl⟩
  | n :: ns, a => by
    obtain ⟨h1, h2, h3⟩ := foldl_min_le ns (min a n)
    rw [List.foldl_cons]
    refine ⟨by omega, fun x hx => ?_, ?_⟩
    · rcases List.mem_cons.mp hx with rfl | hx
      · omega
      · exact h2 x hx
    · rcases h3 with h3 | h3
      · by_cases c : a ≤ n
        · left; omega
        · right; rw [h3]; rw [show min a n = n by omega]; exact List.mem_cons_self
      · exact .inr (List.mem_cons_of_mem _ h3)
theorem foldl_max_le : ∀ (ns : List Int) (a : Int), a ≤ ns.foldl max a ∧ (∀ x ∈ ns, x ≤ ns.foldl max a) ∧ (ns.foldl max a = a ∨ ns.foldl max a ∈ ns)
  | [], a => ⟨Int.le_refl _, (fun _ h => by cases h), .inl rfl⟩
  | n :: ns, a => by
    obtain ⟨h1, h2, h3⟩ := foldl_max_le ns (max a n)
    rw [List.foldl_cons]
    refine ⟨by omega, fun x hx => ?_, ?_⟩
    · rcases List.mem_cons.mp hx with rfl | hx
      · omega
      · exact h2 x hx
    · rcases h3 with h3 | h3
      · by_cases c : n ≤ a
        · left; omega
        · right; rw [h3]; rw [show max a n = n by omega]; exact List.mem_cons_self
      · exact .inr (List.mem_cons_of_mem _ h3)
theorem minL_spec {ns : List Int} (h : ns ≠ []) : minL ns ∈ ns ∧ ∀ x ∈ ns, minL ns ≤ x := by
  cases ns with
  | nil => exact absurd rfl h
  | cons n ns =>
    obtain ⟨h1, h2, h3⟩ := foldl_min_le ns n
    refine ⟨?_, fun x hx => ?_⟩
    · rcases h3 with h3 | h3
      · show ns.foldl min n ∈ _; rw [h3]; exact List.mem_cons_self
      · exact List.mem_cons_of_mem _ h3
    · rcases List.mem_cons.mp hx with rfl | hx
      · exact h1
      · exact h2 x hx
theorem maxL_spec {ns : List Int} (h : ns ≠ []) : maxL ns ∈ ns ∧ ∀ x ∈ ns, x ≤ maxL ns := by
  cases ns with
  | nil => exact absurd rfl h
  | cons n ns =>
    obtain ⟨h1, h2, h3⟩ := foldl_max_le ns n
    refine ⟨?_, fun x hx => ?_⟩
    · rcases h3 with h3 | h3
      · show ns.foldl max n ∈ _; rw [h3]; exact List.mem_cons_self
      · exact List.mem_cons_of_mem _ h3
    · rcases List.mem_cons.mp hx with rfl | hx
      · exact h1
      · exact h2 x hx

def intsOf : List D → Option (List Int)
  | [] => some []
  | .int i :: ds => (intsOf ds).map (i :: ·)
  | _ => none
theorem RepL.intsOf {K : PySem.W.Frag} {Γ : CM} {S : Hp} : ∀ {ds : List D} {vs : List V} {ns : List Int}, RepL K Γ S ds vs → intsOf ds = some ns → vs = ns.map V.int
  | [], _, _, r, h => by cases h; exact r
  | d :: ds, _, ns, ⟨v, ws, e, r, t⟩, h => by
    subst e
    cases d with
    | int i =>
      have h' : (Dl.intsOf ds).map (i :: ·) = some ns := h
      cases q : Dl.intsOf ds with
      | none => rw [q] at h'; cases h'
      | some ms => rw [q] at h'; cases h'; rw [List.map_cons, ← RepL.intsOf t q, show v = V.int i from r]
    | _ => cases h
def opMin : List D → Option D
  | [.lst ds] => (intsOf ds).bind fun ns => if ns = [] then none else some (.int (minL ns))
  | _ => none
def opMax : List D → Option D
  | [.lst ds] => (intsOf ds).bind fun ns => if ns = [] then none else some (.int (maxL ns))
  | _ => none
end Dl
namespace Dl
open PySem L2
section
variable {X : Cx} {Γ : CM}
theorem cd_min (hc : X.calm = true) : CD Γ X (.builtin "min") (rMin X.K) opMin [.bo] .sh := ⟨cr_min hc, fun S H ds vs d Q sh r e k => by
  match ds, e, r with
  | [a], e, r =>
    obtain ⟨v, rfl, r1⟩ := ArgMs.get1 r
    cases a with
    | lst es =>
      obtain ⟨ns, e1, e2⟩ := bind_some e
      obtain ⟨p, ws, ev, hp, hl, rl⟩ := r1.lst sh (Same.refl _)
      by_cases hn : ns = []
      · rw [if_pos hn] at e2; cases e2
      · rw [if_neg hn] at e2; cases e2
        obtain ⟨b1, b2⟩ := minL_spec hn
        refine ⟨p, ns, by rw [ev], by rw [← rl.intsOf e1]; exact SqL.of hp, List.length_pos_iff.mpr hn, fun m h1 h2 => ?_⟩
        have : m = minL ns := by have := b2 m h1; have := h2 _ b1; omega
        subst this
        exact k.flat sh rfl
    | _ => cases e⟩
theorem cd_max (hc : X.calm = true) : CD Γ X (.builtin "max") (rMax X.K) opMax [.bo] .sh := ⟨cr_max hc, fun S H ds vs d Q sh r e k => by
  match ds, e, r with
  | [a], e, r =>
    obtain ⟨v, rfl, r1⟩ := ArgMs.get1 r
    cases a with
    | lst es =>
      obtain ⟨ns, e1, e2⟩ := bind_some e
      obtain ⟨p, ws, ev, hp, hl, rl⟩ := r1.lst sh (Same.refl _)
      by_cases hn : ns = []
      · rw [if_pos hn] at e2; cases e2
      · rw [if_neg hn] at e2; cases e2
        obtain ⟨b1, b2⟩ := maxL_spec hn
        refine ⟨p, ns, by rw [ev], by rw [← rl.intsOf e1]; exact SqL.of hp, List.length_pos_iff.mpr hn, fun m h1 h2 => ?_⟩
        have : m = maxL ns := by have := b2 m h1; have := h2 _ b1; omega
        subst this
        exact k.flat sh rfl
    | _ => cases e⟩
def opMin2 : List D → Option D
  | [.int i, .int j] => some (.int (if j < i then j else i))
  | _ => none
def opMax2 : List D → Option D
  | [.int i, .int j] => some (.int (if j > i then j else i))
  | _ => none
theorem cd_min2 (hc : X.calm = true) : CD Γ X (.builtin "min") (fun xs H Q => ∃ i j, xs = [.int i, .int j] ∧ Q (.int (if j < i then j else i)) H) opMin2 [.sh, .sh] .sh := ⟨call_min2 hc, fun S H ds vs d Q sh r e k => by
  match ds, e, r with
  | [.int i, .int j], e, r => cases e; exact ⟨i, j, r.two, k.flat sh rfl⟩⟩
theorem cd_max2 (hc : X.calm = true) : CD Γ X (.builtin "max") (fun xs H Q => ∃ i j, xs = [.int i, .int j] ∧ Q (.int (if j > i then j else i)) H) opMax2 [.sh, .sh] .sh := ⟨call_max2 hc, fun S H ds vs d Q sh r e k => by
  match ds, e, r with
  | [.int i, .int j], e, r => cases e; exact ⟨i, j, r.two, k.flat sh rfl⟩⟩
def opAbs : List D → Option D
  | [.int i] => some (.int (if i < 0 then -i else i))
  | _ => none
theorem cd_abs : CD Γ X (.builtin "abs") (fun xs H Q => ∃ i, xs = [.int i] ∧ Q (.int (if i < 0 then -i else i)) H) opAbs [.sh] .sh := ⟨call_abs, fun S H ds vs d Q sh r e k => by
  match ds, e, r with
  | [.int i], e, r => cases e; exact ⟨i, r.one, k.flat sh rfl⟩⟩
/-! ### int, str -/
def opInt : List D → Option D
  | [.int i] => some (.int i)
  | [.bl b] => some (.int (if b then 1 else 0))
  | [.str x] => if x.length ≤ 640 then (PySem.intText? x).map D.int else none
  | _ => none
theorem cd_int : CD Γ X (.type "int") (fun xs H Q => ((∃ i, xs = [.int i] ∧ Q (.int i) H) ∨ ∃ k, xs = [.bl k] ∧ Q (.int (if k then 1 else 0)) H) ∨ ∃ a n, xs = [.str a] ∧ PySem.intText? a = some n ∧ a.length ≤ 640 ∧ Q (.int n) H) opInt [.sh] .sh :=
  ⟨callR_or call_int1 call_int_str, fun S H ds vs d Q sh r e k => by
  match ds, e, r with
  | [.int i], e, r => cases e; exact .inl (.inl ⟨i, r.one, k.flat sh rfl⟩)
  | [.bl b], e, r =>
    cases e
    obtain ⟨v, rfl, r1⟩ := ArgMs.get1 r
    exact .inl (.inr ⟨b, by rw [r1.bl (Same.refl _)], k.flat sh rfl⟩)
  | [.str x], e, r =>
    obtain ⟨v, rfl, r1⟩ := ArgMs.get1 r
    have e : (if x.length ≤ 640 then (PySem.intText? x).map D.int else none) = some d := e
    by_cases c : x.length ≤ 640
    · rw [if_pos c] at e
      cases q : PySem.intText? x with
      | none => rw [q] at e; cases e
      | some n => rw [q] at e; cases e; exact .inr ⟨x, n, by rw [(r1.str (Same.refl _)).1], q, c, k.flat sh rfl⟩
    · rw [if_neg c] at e; cases e⟩
def intStr (i : Int) : Str := toString i
def opStr : List D → Option D
  | [.int i] => if i.natAbs.log2 < 1920 ∧ (intStr i).length ≤ sizeLine then some (.str (intStr i)) else none
  | _ => none
theorem cd_str : CD Γ X (.type "str") (fun xs H Q => ∃ i, xs = [.int i] ∧ i.natAbs.log2 < 1920 ∧ Q (.str (toString i)) H) opStr [.sh] .sh := ⟨call_str_int, fun S H ds vs d Q sh r e k => by
  match ds, e, r with
  | [.int i], e, r => obtain ⟨c, rfl⟩ := ite_some e; exact ⟨i, r.one, c.1, k.flat sh ⟨rfl, c.2⟩⟩⟩
/-! ### list, tuple -/
def opList : List D → Option D
  | [.lst ds] => some (.lst ds)
  | [.tup ds] => some (.lst ds)
  | _ => none
theorem cd_list (hm : okS m = true) : CD Γ X (.type "list") (fun xs H Q => ∃ p ys, xs = [.ref p] ∧ (SqL X.K H p ys ∨ SqT X.K H p ys) ∧ ∀ l, H l = none → Q (.ref l) (upd H l (.lst ys))) opList [.bo] m := ⟨call_list_of, fun S H ds vs d Q sh r e k => by
  match ds, e, r with
  | [.lst es], e, r =>
    cases e
    obtain ⟨v, rfl, r1⟩ := ArgMs.get1 r
    obtain ⟨p, ws, ev, hp, hl, rl⟩ := r1.lst sh (Same.refl _)
    exact ⟨p, ws, by rw [ev], .inl (SqL.of hp), fun l h => k.newL hm sh hl rl h⟩
  | [.tup es], e, r =>
    cases e
    obtain ⟨v, rfl, r1⟩ := ArgMs.get1 r
    obtain ⟨p, ws, ev, hp, hl, rl⟩ := r1.tup (Same.refl _)
    exact ⟨p, ws, by rw [ev], .inr (SqT.of (sh _ _ hp)), fun l h => k.newL hm sh hl rl h⟩⟩
def opTuple : List D → Option D
  | [.lst ds] => some (.tup ds)
  | [.tup ds] => some (.tup ds)
  | _ => none
theorem cd_tuple : CD Γ X (.type "tuple") (fun xs H Q => ∃ p ys, xs = [.ref p] ∧ ((SqL X.K H p ys ∧ ∀ l, H l = none → Q (.ref l) (upd H l (.tup ys))) ∨ (SqT X.K H p ys ∧ Q (.ref p) H))) opTuple [.bo] .sh := ⟨call_tuple_of, fun S H ds vs d Q sh r e k => by
  match ds, e, r with
  | [.lst es], e, r =>
    cases e
    obtain ⟨v, rfl, r1⟩ := ArgMs.get1 r
    obtain ⟨p, ws, ev, hp, hl, rl⟩ := r1.lst sh (Same.refl _)
    exact ⟨p, ws, by rw [ev], .inl ⟨SqL.of hp, fun l h => k.newT sh hl rl h⟩⟩
  | [.tup es], e, r =>
    cases e
    obtain ⟨v, rfl, r1⟩ := ArgMs.get1 r
    obtain ⟨p, ws, ev, hp, hl, rl⟩ := r1.tup (Same.refl _)
    exact ⟨p, ws, by rw [ev], .inr ⟨SqT.of (sh _ _ hp), k.flat sh ⟨p, ws, rfl, hp, hl, rl⟩⟩⟩⟩
/-! ### all, any -/
def blsOf : List D → Option (List Bool)
  | [] => some []
  | .bl i :: ds => (blsOf ds).map (i :: ·)
  | _ => none
theorem RepL.blsOf {K : PySem.W.Frag} {S : Hp} : ∀ {ds : List D} {vs : List V} {ns : List Bool}, RepL K Γ S ds vs → blsOf ds = some ns → vs = ns.map V.bl
  | [], _, _, r, h => by cases h; exact r
  | d :: ds, _, ns, ⟨v, ws, e, r, t⟩, h => by
    subst e
    cases d with
    | bl i =>
      have h' : (Dl.blsOf ds).map (i :: ·) = some ns := h
      cases q : Dl.blsOf ds with
      | none => rw [q] at h'; cases h'
      | some ms => rw [q] at h'; cases h'; rw [List.map_cons, ← RepL.blsOf t q, show v = V.bl i from r]
    | _ => cases h
def opAll : List D → Option D
  | [.lst ds] => (blsOf ds).map fun bs => .bl (bs.all id)
  | _ => none
def opAny : List D → Option D
  | [.lst ds] => (blsOf ds).map fun bs => .bl (bs.any id)
  | _ => none
theorem cd_all (hc : X.calm = true) : CD Γ X (.builtin "all") (rAll X.K) opAll [.bo] .sh := ⟨cr_all hc, fun S H ds vs d Q sh r e k => by
  match ds, e, r with
  | [.lst es], e, r =>
    obtain ⟨v, rfl, r1⟩ := ArgMs.get1 r
    obtain ⟨p, ws, ev, hp, hl, rl⟩ := r1.lst sh (Same.refl _)
    have e : (blsOf es).map (fun bs => D.bl (bs.all id)) = some d := e
    cases q : blsOf es with
    | none => rw [q] at e; cases e
    | some bs => rw [q] at e; cases e; exact ⟨p, bs, by rw [ev], by rw [← RepL.blsOf rl q]; exact SqL.of hp, k.flat sh rfl⟩⟩
theorem cd_any (hc : X.calm = true) : CD Γ X (.builtin "any") (rAny X.K) opAny [.bo] .sh := ⟨cr_any hc, fun S H ds vs d Q sh r e k => by
  match ds, e, r with
  | [.lst es], e, r =>
    obtain ⟨v, rfl, r1⟩ := ArgMs.get1 r
    obtain ⟨p, ws, ev, hp, hl, rl⟩ := r1.lst sh (Same.refl _)
    have e : (blsOf es).map (fun bs => D.bl (bs.any id)) = some d := e
    cases q : blsOf es with
    | none => rw [q] at e; cases e
    | some bs => rw [q] at e; cases e; exact ⟨p, bs, by rw [ev], by rw [← RepL.blsOf rl q]; exact SqL.of hp, k.flat sh rfl⟩⟩
end

/-! ### stores into an owned slot -/
section
variable {X : Cx} {Γ : CM} {E : WX} {rm m m' : Mode} {M : List Mode} {e a b : Expr} {te ta tb : TE} {f g : Ev} {pos apos cpos : Pos} {K : PySem.W.Frag}
theorem vVar_some {i : Nat} {δ : Env} {d : D} (h : vVar i δ = some d) : δ[i]? = some (some d) := by
  unfold vVar at h
  cases z : δ[i]? with
  | none => rw [z] at h; cases h
  | some o => rw [z] at h; cases o with
    | none => cases h
    | some x => cases h; rfl
/-- what stands in an owned slot -/
theorem Wd.owned {S0 H0 S H : Hp} {σ : St} {δ : Env} {i : Nat} {d : D} (w : Wd K Γ S0 H0 S H σ M δ) (hM : md M i = .ow) (h : δ[i]? = some (some d)) : ∃ a, σ[i]? = some (some (.ref a)) ∧ S a = none ∧ TopAt K Γ S H a d := by
  obtain ⟨v, hv, r⟩ := w.slot i d h
  rw [hM] at r
  obtain ⟨a, ev, n, t⟩ := r
  subst ev
  exact ⟨a, hv, n, t⟩
def putL (i : Nat) (δ : Env) (ds : List D) : Out := .nx (δ.set i (some (.lst ds)))
def sApp (i : Nat) (f : Ev) : Sv := fun δ => (vVar i δ).bind fun l => match l with
  | .lst ds => (f δ).bind fun d => if ds.length < sizeLine then some (putL i δ (ds ++ [d])) else none
  | _ => none
theorem ds_append {i : Nat} {x : Str} {p : Pos} (hM : md M i = .ow) (he : DE Γ X M e te f m) (hm : okS m = true := by rfl) (hN : X.N[i]? = some x := by rfl) (hv : Vis X.env.scope x := by first | exact Or.inl rfl | exact Or.inr (Or.inl rfl) | exact Or.inr (Or.inr rfl)) (hd : (x == ("__debug__" : Str)) = false := by decide)
    (hcd : (x == ("__classdict__" : Str)) = false := by decide) (hbase : attributeBase (.Name x p) "append" X.env (eval (.Name x p) X.env) = eval (.Name x p) X.env := by rfl)
    (hfew : (((backTo cpos (starEach [e] X.env)).all (!·.1)) && ((backToKw cpos (keywordEach [] X.env)).all (·.1.isSome)) && decide (([e].length + ([] : List Keyword).length + if ([] : List Keyword).isEmpty = true then 0 else 1) < 30)) = true := by rfl) (hline : (apos.endLine == cpos.line) = true := by rfl)
    (h3 : starEach [e] X.env = (false, eval e X.env) :: starEach [] X.env := by rfl) (h4 : (backTo cpos (starEach [] X.env)).any (·.1) = false := by rfl) (hs : swapsWith (.Call (.Attribute (.Name x p) "append" apos) [e] [] cpos) none pos.line X.env = pure false := by rfl) :
    DS Γ X E rm M (.Expr (.Call (.Attribute (.Name x p) "append" apos) [e] [] cpos) pos) (tDrop (tBM X.K "list" rAppend (tVar i) (tCons te tNil))) (sApp i f) M [] :=
  ⟨ps_expr (pe_bm PySem.F.plainAttrs_list PySem.F.slot_list_append PySem.F.type_list_append mt_append (pe_var hN hv hd hcd) (pa_cons he.pe pa_nil h3) hbase hfew hline h3 h4) hs, fun S0 H0 S H σ δ Dn o w ef k => by
    obtain ⟨l, e1, e2⟩ := bind_some ef
    have hl := vVar_some e1
    cases l with
    | lst ds =>
      obtain ⟨d, e3, e4⟩ := bind_some e2
      obtain ⟨hlen, rfl⟩ := ite_some e4
      obtain ⟨p', hp, hS, vs, hH, hz, rl⟩ := w.owned hM hl
      refine ⟨_, hp, .inl ⟨rfl, vs, SqL.of hH⟩, ?_⟩
      refine (he.snd.sh hm) S0 H0 S H σ δ _ d w e3 fun v S1 H1 x1 r1 _ => ?_
      have r2 := rl.mono x1.ss
      refine ⟨p', vs, v, rfl, rfl, x1.hh _ _ hH, by rw [rl.length]; exact hlen, ?_⟩
      exact k S1 _ σ x1.ss ((w.mono x1).write hM hl hp ⟨_, upd_same, by rw [List.length_append, List.length_singleton]; omega, r2.append (RepL.one r1)⟩) Fr.refl
    | _ => cases e2⟩
def sExt (i : Nat) (f : Ev) : Sv := fun δ => (vVar i δ).bind fun l => match l with
  | .lst ds => (f δ).bind fun d => match d with
    | .lst es => if ds.length + es.length ≤ sizeLine then some (putL i δ (ds ++ es)) else none
    | _ => none
  | _ => none
theorem ds_extend {i : Nat} {x : Str} {p : Pos} (hM : md M i = .ow) (he : DE Γ X M e te f m) (hN : X.N[i]? = some x := by rfl) (hv : Vis X.env.scope x := by first | exact Or.inl rfl | exact Or.inr (Or.inl rfl) | exact Or.inr (Or.inr rfl)) (hd : (x == ("__debug__" : Str)) = false := by decide)
    (hcd : (x == ("__classdict__" : Str)) = false := by decide) (hbase : attributeBase (.Name x p) "extend" X.env (eval (.Name x p) X.env) = eval (.Name x p) X.env := by rfl)
    (hfew : (((backTo cpos (starEach [e] X.env)).all (!·.1)) && ((backToKw cpos (keywordEach [] X.env)).all (·.1.isSome)) && decide (([e].length + ([] : List Keyword).length + if ([] : List Keyword).isEmpty = true then 0 else 1) < 30)) = true := by rfl) (hline : (apos.endLine == cpos.line) = true := by rfl)
    (h3 : starEach [e] X.env = (false, eval e X.env) :: starEach [] X.env := by rfl) (h4 : (backTo cpos (starEach [] X.env)).any (·.1) = false := by rfl) (hs : swapsWith (.Call (.Attribute (.Name x p) "extend" apos) [e] [] cpos) none pos.line X.env = pure false := by rfl) :
    DS Γ X E rm M (.Expr (.Call (.Attribute (.Name x p) "extend" apos) [e] [] cpos) pos) (tDrop (tBM X.K "list" rExtend (tVar i) (tCons te tNil))) (sExt i f) M [] :=
  ⟨ps_expr (pe_bm PySem.F.plainAttrs_list PySem.F.slot_list_extend PySem.F.type_list_extend mt_extend (pe_var hN hv hd hcd) (pa_cons he.pe pa_nil h3) hbase hfew hline h3 h4) hs, fun S0 H0 S H σ δ Dn o w ef k => by
    obtain ⟨l, e1, e2⟩ := bind_some ef
    have hl := vVar_some e1
    cases l with
    | lst ds =>
      obtain ⟨d, e3, e4⟩ := bind_some e2
      cases d with
      | lst es =>
        obtain ⟨hlen, rfl⟩ := ite_some e4
        obtain ⟨p', hp, hS, vs, hH, hz, rl⟩ := w.owned hM hl
        refine ⟨_, hp, .inl ⟨rfl, vs, SqL.of hH⟩, ?_⟩
        refine he.snd S0 H0 S H σ δ _ _ w e3 fun v S1 H1 x1 r1 _ => ?_
        obtain ⟨p2, ws, ev, h2, l2, r2⟩ := r1.lst x1.sh (w.mono x1).h0
        subst ev
        refine ⟨p', p2, vs, ws, rfl, rfl, x1.hh _ _ hH, h2, by rw [rl.length, r2.length]; exact hlen, ?_⟩
        exact k S1 _ σ x1.ss ((w.mono x1).write hM hl hp ⟨_, upd_same, by rw [List.length_append]; omega, (rl.mono x1.ss).append r2⟩) Fr.refl
      | _ => cases e4
    | _ => cases e2⟩
end

/-! ### a def -/
def denOf (n np : Nat) (rm : Mode) (s : Sv) : List D → Option D := fun ds => if ds.length = np then (s (ds.map some ++ List.replicate (n - np) none)).bind fun o => match o with
  | .rt d => some d
  | .nx _ => if rm = .sh then some .non else none
  | .ex _ _ => none
  else none
def initM (n : Nat) (pm : List Mode) : List Mode := pm ++ List.replicate (n - pm.length) .sh
theorem start_get {N : List Str} {vs : List V} {i : Nat} {v : V} (h : vs[i]? = some v) : (L2.start N vs)[i]? = some (some v) := by
  unfold L2.start
  have hl : i < vs.length := (List.getElem?_eq_some_iff.mp h).1
  rw [List.getElem?_append_left (by rw [List.length_map]; exact hl), List.getElem?_map, h]
  rfl
theorem ArgMs.at {K : PySem.W.Frag} {Γ : CM} {S H : Hp} : ∀ {ms : List Mode} {ds : List D} {vs : List V} {i : Nat} {d : D}, ArgMs K Γ S H ms ds vs → ds[i]? = some d → ∃ v m, vs[i]? = some v ∧ ms[i]? = some m ∧ ArgM K Γ S H m d v
  | [], _, _, _, _, ⟨e, _⟩, h => by subst e; simp at h
  | m :: ms, _, _, 0, d, ⟨d', ds', v, vs', e1, e2, r, t⟩, h => by
    subst e1 e2
    have e : d' = d := Option.some.inj h
    subst e
    exact ⟨v, m, rfl, rfl, r⟩
  | m :: ms, _, _, i + 1, d, ⟨d', ds', v, vs', e1, e2, r, t⟩, h => by
    subst e1 e2
    exact ArgMs.at (i := i) t h
theorem Wd.begin {K : PySem.W.Frag} {Γ : CM} {S H : Hp} {N : List Str} {pm : List Mode} {ds : List D} {vs : List V} (sh : Same S H) (r : ArgMs K Γ S H pm ds vs) (hp : pm.all (fun m => m == .sh || m == .bo) = true) : Wd K Γ S H S H (L2.start N vs) (initM N.length pm) (ds.map some ++ List.replicate (N.length - pm.length) none) := by
  have hm : ∀ i, md (initM N.length pm) i = .sh ∨ md (initM N.length pm) i = .bo := fun i => by
    unfold md initM
    rw [List.getD_eq_getElem?_getD]
    by_cases hi : i < pm.length
    · rw [List.getElem?_append_left hi, List.getElem?_eq_getElem hi]
      have := List.all_eq_true.mp hp _ (List.getElem_mem hi)
      simpa using this
    · rw [List.getElem?_append_right (by omega)]
      cases q : (List.replicate (N.length - pm.length) Mode.sh)[i - pm.length]? with
      | none => exact .inl rfl
      | some m =>
        have := List.mem_of_getElem? q
        rw [List.mem_replicate] at this
        exact .inl this.2
  have ow : ∀ i, md (initM N.length pm) i ≠ .ow := fun i z => by rcases hm i with h | h <;> rw [h] at z <;> cases z
  obtain ⟨l1, l2⟩ := r.len
  refine ⟨Ext.refl sh, by unfold L2.start; simp [l1, l2], fun i d h => ?_, fun i d a h m s => (ow i m).elim, fun i j di dj a h1 h2 m1 m2 s1 s2 => (ow i m1).elim, fun i z => by rcases hm i with h | h <;> rw [h] at z <;> cases z⟩
  by_cases hi : i < ds.length
  · rw [List.getElem?_append_left (by rw [List.length_map]; exact hi), List.getElem?_map, List.getElem?_eq_getElem hi] at h
    have e : ds[i] = d := Option.some.inj (Option.some.inj h)
    obtain ⟨v, m, hv, hmi, ra⟩ := ArgMs.at r ((List.getElem?_eq_getElem hi).trans (congrArg some e))
    refine ⟨v, start_get hv, ?_⟩
    have em : md (initM N.length pm) i = m := by
      unfold md initM
      rw [List.getD_eq_getElem?_getD, List.getElem?_append_left (by omega), hmi]
      rfl
    rw [em]
    have hm' := hm i
    rw [em] at hm'
    rcases hm' with e | e
    · subst e; exact ra
    · subst e; exact ra
  · rw [List.getElem?_append_right (by rw [List.length_map]; omega)] at h
    have := List.mem_of_getElem? h
    rw [List.mem_replicate] at this
    cases this.2
section
variable {P : Program} {w : World} {K : PySem.W.Frag} {mg : Str → Option Value} {base : Heap} {Γ : CM}
theorem fn_ok {x qual : Str} {st : Stmt} {f : Addr} {fd : FuncData} {N ps : List Str} {k : Nat} {pm : List Mode} {rm : Mode} {s : Sv} {M' : List Mode} (F : Fun K x qual st f fd) (S : FnScope N ps (defScope st)) (hl : pm.length = ps.length) (hp : pm.all (fun m => m == .sh || m == .bo) = true) {M0 : List Mode} (hM : initM N.length pm = M0) {n np : Nat} (hn : N.length = n) (hnp : ps.length = np)
    (hbody : ∀ (cdv : Value) (A : Around) (outer : List PySem.Env) (s0 : Shared) (H : Hp) (E : XK), Room k (A.deeper (PyProof.Rows.envOfC qual (defScope st) s0.heap.objs.size f cdv)) →
      ∃ t ws, DSs Γ (cxOf CX0 P w K mg base N qual (defScope st) f cdv A outer s0 H E).nox W0 rm M0 (defBody st) t s M' ws) : FnOk P w K mg base CX0 (k + 1) f fd ps (spD K Γ pm rm (denOf n np rm s)) := by
  subst hM hn hnp
  refine F.ok S (fun vs H Q E h => ?_) (fun cdv A outer s0 H vs Q E hr h => ?_)
  · obtain ⟨S1, ds, r, _, ra, _⟩ := h
    rw [ra.len.1, hl]
  · obtain ⟨S1, ds, r, sh, ra, ed, kk⟩ := h
    obtain ⟨t, ws, hb⟩ := hbody cdv A outer s0 H E hr
    refine ⟨t, hb.pss, ?_⟩
    unfold denOf at ed
    have hds : ds.length = ps.length := ra.len.2.trans hl
    rw [if_pos hds] at ed
    obtain ⟨o, e1, e2⟩ := bind_some ed
    rw [← hl] at e1
    refine hb.snd S1 H S1 H _ _ _ o (Wd.begin sh ra hp) e1 ?_
    cases o with
    | nx δ =>
      have e2 : (if rm = .sh then some D.non else none) = some r := e2
      obtain ⟨c, rfl⟩ := ite_some e2
      subst c
      exact fun S2 H2 σ2 s2 w2 _ => kk .non S2 H2 w2.ext rfl fun z => by cases z
    | rt d =>
      cases e2
      exact fun v S2 H2 x2 r2 fr => kk v S2 H2 x2 (by cases rm <;> first | exact r2 | exact r2) fr
    | ex c fs => cases e2
end
end Dl
namespace Dl
open PySem L2
/-! ### anything that is walked -/
theorem pi_or {X : Cx} {tg iter : Expr} {wi wi' : TI} (h : PI X tg iter wi) (h' : PI X tg iter wi') : PI X tg iter (fun σ H R => wi σ H R ∨ wi' σ H R) := by
  refine ⟨fun pins s σ H R I q => ?_⟩
  rcases q with q | q
  · exact h.run pins s σ H R I q
  · exact h'.run pins s σ H R I q
def itemsD : D → Option (List D)
  | .lst ds => some ds
  | .scr ns => some (ns.map D.int)
  | .tup ds => some ds
  | .ktup ds => some ds
  | .str x => some (signs x)
  | _ => none
def iAnyF (f : Ev) : Env → Option (List D) := fun δ => (f δ).bind itemsD
def iAny (K : PySem.W.Frag) (te : TE) : TI := fun σ H R => iList K te σ H R ∨ (iTup K te σ H R ∨ iStr te σ H R)
section
variable {X : Cx} {Γ : CM} {M : List Mode} {tg e : Expr} {te : TE} {f : Ev} {m : Mode}
theorem di_any (ha : DE Γ X M e te f m) (hm : okI m = true := by rfl) : DI Γ X M tg e (iAny X.K te) (iAnyF f) := ⟨pi_or (di_list ha hm).pi (pi_or (di_tup ha).pi (di_str ha).pi), fun S0 H0 S H σ δ R ds w ef k => by
  obtain ⟨d, e1, e2⟩ := bind_some ef
  cases d with
  | lst es => exact .inl ((di_list (tg := tg) ha hm).snd S0 H0 S H σ δ R ds w (by unfold iLstF; rw [e1]; exact e2) k)
  | scr es => exact .inl ((di_list (tg := tg) ha hm).snd S0 H0 S H σ δ R ds w (by unfold iLstF; rw [e1]; exact e2) k)
  | tup es => exact .inr (.inl ((di_tup (tg := tg) ha).snd S0 H0 S H σ δ R ds w (by unfold iTupF; rw [e1]; exact e2) k))
  | ktup es => exact .inr (.inl ((di_tup (tg := tg) ha).snd S0 H0 S H σ δ R ds w (by unfold iTupF; rw [e1]; exact e2) k))
  | str es => exact .inr (.inr ((di_str (tg := tg) ha).snd S0 H0 S H σ δ R ds w (by unfold iStrF; rw [e1]; exact e2) k))
  | _ => cases e2⟩
theorem dic_any (ha : DE Γ X M e te f m) : DIC Γ X M tg e (iAny X.K te) (iAnyF f) := ⟨pi_or (dic_list ha).pi (pi_or (di_tup ha).pi (di_str ha).pi), fun S0 H0 S H σ δ R ds w ef k => by
  obtain ⟨d, e1, e2⟩ := bind_some ef
  cases d with
  | lst es => exact .inl ((dic_list (tg := tg) ha).snd S0 H0 S H σ δ R ds w (by unfold iLstF; rw [e1]; exact e2) k)
  | scr es => exact .inl ((dic_list (tg := tg) ha).snd S0 H0 S H σ δ R ds w (by unfold iLstF; rw [e1]; exact e2) k)
  | tup es => exact .inr (.inl ((di_tup (tg := tg) ha).snd.c S0 H0 S H σ δ R ds w (by unfold iTupF; rw [e1]; exact e2) k))
  | ktup es => exact .inr (.inl ((di_tup (tg := tg) ha).snd.c S0 H0 S H σ δ R ds w (by unfold iTupF; rw [e1]; exact e2) k))
  | str es => exact .inr (.inr ((di_str (tg := tg) ha).snd.c S0 H0 S H σ δ R ds w (by unfold iStrF; rw [e1]; exact e2) k))
  | _ => cases e2⟩
/-! ### f'..' -/
def vFmt (f : Ev) : Ev := fun δ => (f δ).bind fun d => match d with
  | .str x => some (.str x)
  | .int i => if i.natAbs.log2 < 1920 ∧ (intStr i).length ≤ sizeLine then some (.str (intStr i)) else none
  | _ => none
theorem de_fmt {pos : Pos} (ha : DE Γ X M e te f m) : DE Γ X M (.FormattedValue e (-1) none pos) (tFmt te) (vFmt f) .sh := ⟨pe_fmt ha.pe, fun S0 H0 S H σ δ Q d w ef k => by
  obtain ⟨c, e1, e2⟩ := bind_some ef
  refine ha.snd S0 H0 S H σ δ _ c w e1 fun v S1 H1 x1 r1 _ => ?_
  have w1 := w.mono x1
  cases c with
  | str x => cases e2; obtain ⟨ev, hl⟩ := r1.str w1.h0; exact .inl ⟨x, ev, hl, (k.ext x1).flat x1.sh ⟨rfl, hl⟩⟩
  | int i => obtain ⟨c, rfl⟩ := ite_some e2; exact .inr ⟨i, r1.int w1.h0, c.1, (k.ext x1).flat x1.sh ⟨rfl, c.2⟩⟩
  | _ => cases e2⟩
inductive DJ (Γ : CM) (X : Cx) (M : List Mode) : List Expr → List TE → List Ev → Prop where
  | nil : DJ Γ X M [] [] []
  | cons {e : Expr} {t : TE} {f : Ev} {m : Mode} {es : List Expr} {ts : List TE} {fs : List Ev} (h : DE Γ X M e t f m) (r : DJ Γ X M es ts fs) : DJ Γ X M (e :: es) (t :: ts) (f :: fs)
theorem DJ.pj {es : List Expr} {ts : List TE} {fs : List Ev} (h : DJ Γ X M es ts fs) : PJ X es ts := by
  induction h with
  | nil => exact .nil
  | cons h r ih => exact .cons h.pe ih
def vJ : List Ev → Str → Env → Option Str
  | [], acc, _ => some acc
  | f :: fs, acc, δ => (f δ).bind fun d => match d with
    | .str y => if (acc ++ y).length ≤ sizeLine then vJ fs (acc ++ y) δ else none
    | _ => none
theorem DJ.snd {es : List Expr} {ts : List TE} {fs : List Ev} (h : DJ Γ X M es ts fs) : ∀ (acc out : Str) (S0 H0 S H : Hp) (σ : St) (δ : Env) (Q : Str → Hp → Prop), acc.length ≤ sizeLine → Wd X.K Γ S0 H0 S H σ M δ → vJ fs acc δ = some out → (∀ S' H', Ext S H S' H' → out.length ≤ sizeLine → Q out H') → tJs ts acc σ H Q := by
  induction h with
  | nil =>
    intro acc out S0 H0 S H σ δ Q ha w e k
    cases e
    exact k S H (Ext.refl w.sH) ha
  | cons h r ih =>
    intro acc out S0 H0 S H σ δ Q ha w e k
    obtain ⟨d, e1, e2⟩ := bind_some e
    refine h.snd S0 H0 S H σ δ _ d w e1 fun v S1 H1 x1 r1 _ => ?_
    cases d with
    | str y =>
      have e2 : (if (acc ++ y).length ≤ sizeLine then vJ _ (acc ++ y) δ else none) = some out := e2
      by_cases c : (acc ++ y).length ≤ sizeLine
      · rw [if_pos c] at e2
        exact ⟨y, (r1.str (w.mono x1).h0).1, c, ih (acc ++ y) out S0 H0 S1 H1 σ δ Q c (w.mono x1) e2 fun S2 H2 x2 hl => k S2 H2 (x1.trans x2) hl⟩
      · rw [if_neg c] at e2; cases e2
    | _ => cases e2
def vJoined (fs : List Ev) : Ev := fun δ => (vJ fs Str.empty δ).map D.str
theorem de_joined {v1 v2 : Expr} {rest : List Expr} {ts : List TE} {fs : List Ev} {pos : Pos} (h : DJ Γ X M (v1 :: v2 :: rest) ts fs) : DE Γ X M (.JoinedStr (v1 :: v2 :: rest) pos) (fun σ H Q => tJs ts Str.empty σ H fun out H1 => Q (.str out) H1) (vJoined fs) .sh := ⟨pe_joined h.pj, fun S0 H0 S H σ δ Q d w ef k => by
  unfold vJoined at ef
  cases q : vJ fs Str.empty δ with
  | none => rw [q] at ef; cases ef
  | some out =>
    rw [q] at ef; cases ef
    exact h.snd Str.empty out S0 H0 S H σ δ _ (Nat.zero_le _) w q fun S1 H1 x1 hl => (k.ext x1).flat x1.sh ⟨rfl, hl⟩⟩
end
/-! ### what the top has written -/
structure Dfn (K : PySem.W.Frag) (mg : Str → Option Value) (x qual : Str) (st : Stmt) (ps : List Str) where
  f : Addr
  fd : FuncData
  fn : Fun K x qual st f fd
  gl : mg x = some (.ref f)
  bd : Binds K fd ps []
section
variable {X : Cx} {Γ : CM} {M : List Mode} {e : Expr} {es : List Expr} {tr : TA} {fr : Env → Option (List D)} {m : Mode} {pos : Pos}
theorem de_callD {x qual : Str} {st : Stmt} {ps : List Str} {k : Nat} {p : Pos} {pm : List Mode} {den : List D → Option D} (T : Dfn X.K X.mg x qual st ps) (F : FnOk X.prog X.w X.K X.mg X.base CX0 k T.f T.fd ps (spD X.K Γ pm m den)) (hr : Room k X.A)
    (ha : DAr Γ X M (e :: es) tr fr pm) (hg : Gl X x := by rfl) (hm : okS m = true := by rfl) (h2 : (x == ("__debug__" : Str)) = false := by decide) (h3 : starEach (e :: es) X.env = (false, eval e X.env) :: starEach es X.env := by rfl) (h4 : (backTo pos (starEach es X.env)).any (·.1) = false := by rfl) :
    DE Γ X M (.Call (.Name x p) (e :: es) [] pos) (tCall (spD X.K Γ pm m den) [] E0 tr) (vC1 den fr) m := de_call F hr hg T.gl T.fn.kp T.bd ha hm h2 h3 h4
end
/-! ### the law -/
def spLaw (K : PySem.W.Frag) : Sp := fun vs H Q _ => ∃ (a : Addr) (ns : List Int), vs = [.ref a] ∧ SqL K H a (ns.map V.int) ∧ ns.length ≤ 63 ∧ ∀ H', Q (.bl true) H'
theorem law_of {P : Program} {w : World} {K : PySem.W.Frag} {mg : Str → Option Value} {base : Heap} {Γ : CM} {k : Nat} {f : Addr} {fd : FuncData} {ps : List Str} {m : Mode} {den : List D → Option D} (hm : m = .bo ∨ m = .sh)
    (hden : ∀ ns : List Int, ns.length ≤ 63 → den [.scr ns] = some (.bl true)) (F : FnOk P w K mg base CX0 k f fd ps (spD K Γ [m] .sh den)) : FnOk P w K mg base CX0 k f fd ps (spLaw K) :=
  F.imp fun vs H Q E ⟨a, ns, e, hS, hl, q⟩ => ⟨H, [.scr ns], .bl true, Same.refl _, ⟨_, [], .ref a, [], rfl, e, by
    have r : Rep K Γ H (.scr ns) (.ref a) := ⟨a, rfl, hS, hl⟩
    rcases hm with rfl | rfl
    · exact .inl r
    · exact r, rfl, rfl⟩, hden ns hl, fun v S' H' x r _ => by
    rw [show v = .bl true from r]; exact q H'⟩
end Dl
/-! the rules with the written part said: their readings don't hang on the context. -/
namespace Dl
open PySem L2
section
variable {X : Cx} {Γ : CM} (K : PySem.W.Frag) {M M1 : List Mode} {tg e a b c : Expr} {es : List Expr} {te ta tb : TE} {f g : Ev} {m ma mb : Mode} {pos : Pos} {ws : List Nat} {gs : TGs} {hs : List D → Env → Option Env}
theorem od_addK (hK : X.K = K := by rfl) : OpD Γ X (binaryOp .Add) (rAddD K) opAdd .sh := by subst hK; exact od_add
theorem od_eqK (hu : X.A.units + 64 < cLine) (hK : X.K = K := by rfl) : OpD Γ X (compareOp .Eq) (rEqP K Γ) opEq .sh := by subst hK; exact od_eq hu
theorem od_neK (hu : X.A.units + 64 < cLine) (hK : X.K = K := by rfl) : OpD Γ X (compareOp .NotEq) (rNeP K Γ) opNe .sh := by subst hK; exact od_ne hu
theorem od_inK (hu : X.A.units + 64 < cLine) (hK : X.K = K := by rfl) : OpD Γ X (compareOp .In) (rInP K Γ false) opIn .sh := by subst hK; exact od_in hu
theorem od_ninK (hu : X.A.units + 64 < cLine) (hK : X.K = K := by rfl) : OpD Γ X (compareOp .NotIn) (rInP K Γ true) opNin .sh := by subst hK; exact od_nin hu
theorem de_ixK (hu : X.A.units + 64 < cLine) (ha : DE Γ X M a ta f ma) (hb : DE Γ X M b tb g mb) (hs : PlainIx b := by exact fun _ _ => rfl) (hK : X.K = K := by rfl) : DE Γ X M (.Subscript a b pos) (tOp (rIxA K) ta tb) (v2 opIx f g) .sh := by subst hK; exact de_ix hu ha hb hs
theorem de_slK {lo hi : Option Expr} {tl th : TO} {l u : Env → Option (Option Int)} {p2 : Pos} (ha : DE Γ X M a ta f ma) (hl : DO Γ X M lo tl l) (hh : DO Γ X M hi th u) (hK : X.K = K := by rfl) : DE Γ X M (.Subscript a (.Slice lo hi none p2) pos) (tSl (rSlAll K) ta tl th) (vSl opSl f l u) .sh := by subst hK; exact de_sl ha hl hh
theorem de_slLK {lo hi : Option Expr} {tl th : TO} {l u : Env → Option (Option Int)} {p2 : Pos} (ha : DE Γ X M a ta f ma) (hl : DO Γ X M lo tl l) (hh : DO Γ X M hi th u) (hK : X.K = K := by rfl) : DE Γ X M (.Subscript a (.Slice lo hi none p2) pos) (tSl (rSlL K) ta tl th) (vSl opSlL f l u) .ow := by subst hK; exact de_slL ha hl hh
theorem de_fldK {x : Str} (T : ∀ c, ClsOk K Γ c x) (ha : DE Γ X M e te f m) (hb : attributeBase e x X.env (eval e X.env) = eval e X.env := by rfl) (hK : X.K = K := by rfl) : DE Γ X M (.Attribute e x pos) (tFld K te x) (vFld x f) .sh := by subst hK; exact de_fld T ha hb
theorem cd_lenK (hK : X.K = K := by rfl) : CD Γ X (.builtin "len") (fun xs H Q => ∃ x n, xs = [x] ∧ LenV K x H n ∧ Q (.int n) H) opLen [.bo] .sh := by subst hK; exact cd_len
theorem cd_isiK (hK : X.K = K := by rfl) : CD Γ X (.builtin "isinstance") (rIsi K) opIsi [.bo, .sh] .sh := by subst hK; exact cd_isi
theorem cd_minK (hc : X.calm = true) (hK : X.K = K := by rfl) : CD Γ X (.builtin "min") (rMin K) opMin [.bo] .sh := by subst hK; exact cd_min hc
theorem cd_maxK (hc : X.calm = true) (hK : X.K = K := by rfl) : CD Γ X (.builtin "max") (rMax K) opMax [.bo] .sh := by subst hK; exact cd_max hc
theorem cd_listK (hm : okS m = true) (hK : X.K = K := by rfl) : CD Γ X (.type "list") (fun xs H Q => ∃ p ys, xs = [.ref p] ∧ (SqL K H p ys ∨ SqT K H p ys) ∧ ∀ l, H l = none → Q (.ref l) (upd H l (.lst ys))) opList [.bo] m := by subst hK; exact cd_list hm
theorem cd_tupleK (hK : X.K = K := by rfl) : CD Γ X (.type "tuple") (fun xs H Q => ∃ p ys, xs = [.ref p] ∧ ((SqL K H p ys ∧ ∀ l, H l = none → Q (.ref l) (upd H l (.tup ys))) ∨ (SqT K H p ys ∧ Q (.ref p) H))) opTuple [.bo] .sh := by subst hK; exact cd_tuple
theorem cd_allK (hc : X.calm = true) (hK : X.K = K := by rfl) : CD Γ X (.builtin "all") (rAll K) opAll [.bo] .sh := by subst hK; exact cd_all hc
theorem cd_anyK (hc : X.calm = true) (hK : X.K = K := by rfl) : CD Γ X (.builtin "any") (rAny K) opAny [.bo] .sh := by subst hK; exact cd_any hc
theorem di_anyK (ha : DE Γ X M e te f m) (hm : okI m = true := by rfl) (hK : X.K = K := by rfl) : DI Γ X M tg e (iAny K te) (iAnyF f) := by subst hK; exact di_any ha hm
theorem dic_anyK (ha : DE Γ X M e te f m) (hK : X.K = K := by rfl) : DIC Γ X M tg e (iAny K te) (iAnyF f) := by subst hK; exact dic_any ha
theorem dg_tupK {k n : Nat} (hc : X.calm = true) (h : DGs Γ X M es gs hs M1 ws) (hn : (assignEach es X.env).length = n := by rfl) (hst : (assignEach es X.env).findIdx? (·.1) = none := by rfl) (hK : X.K = K := by rfl) : DG Γ X M (.Tuple es k pos) (gTup K n gs) (hTup n hs) M1 ws := by subst hK; exact dg_tup hc h hn hst
theorem de_callDK {mg : Str → Option Value} {tr : TA} {fr : Env → Option (List D)} {x qual : Str} {st : Stmt} {ps : List Str} {k : Nat} {p : Pos} {pm : List Mode} {den : List D → Option D} (T : Dfn K mg x qual st ps) (F : FnOk X.prog X.w K mg X.base CX0 k T.f T.fd ps (spD K Γ pm m den)) (hr : Room k X.A)
    (ha : DAr Γ X M (e :: es) tr fr pm) (hg : Gl X x := by rfl) (hm : okS m = true := by rfl) (h2 : (x == ("__debug__" : Str)) = false := by decide) (h3 : starEach (e :: es) X.env = (false, eval e X.env) :: starEach es X.env := by rfl) (h4 : (backTo pos (starEach es X.env)).any (·.1) = false := by rfl) (hK : X.K = K := by rfl) (hmg : X.mg = mg := by rfl) :
    DE Γ X M (.Call (.Name x p) (e :: es) [] pos) (tCall (spD K Γ pm m den) [] E0 tr) (vC1 den fr) m := by subst hK hmg; exact de_callD T F hr ha hg hm h2 h3 h4
end
end Dl
/-! methods of texts. -/
namespace Dl
open PySem L2
structure MD (Γ : CM) (X : Cx) (id : String) (r : V → List V → Hp → VK → Prop) (op : Str → List D → Option D) (ms : List Mode) (m : Mode) : Prop where
  mt : MtR X id r
  snd : ∀ S H x ds vs d Q, Same S H → x.length ≤ sizeLine → ArgMs X.K Γ S H ms ds vs → op x ds = some d → Kont X.K Γ H S H m d Q → r (.str x) vs H Q
def vM (op : Str → List D → Option D) (f : Ev) (g : Env → Option (List D)) : Ev := fun δ => (f δ).bind fun a => (g δ).bind fun ds => match a with | .str x => op x ds | _ => none
section
variable {X : Cx} {Γ : CM} {M : List Mode} {o e : Expr} {es : List Expr} {to : TE} {tr : TA} {f : Ev} {fr : Env → Option (List D)} {m mo : Mode} {ms : List Mode} {name : Str} {apos cpos : Pos} {id : String} {r : V → List V → Hp → VK → Prop} {op : Str → List D → Option D}
theorem de_bm (K : PySem.W.Frag) (slot : Slot "str" name id) (hty : typeOf (.builtin id) = pure (.type "method_descriptor")) (md : MD Γ X id r op ms m) (ho : DE Γ X M o to f mo) (ha : DAr Γ X M (e :: es) tr fr ms) (hm : okS m = true := by rfl)
    (h1 : attributeBase o name X.env (eval o X.env) = eval o X.env := by rfl)
    (h2 : (((backTo cpos (starEach (e :: es) X.env)).all (!·.1)) && ((backToKw cpos (keywordEach [] X.env)).all (·.1.isSome)) && decide (((e :: es).length + ([] : List Keyword).length + if ([] : List Keyword).isEmpty = true then 0 else 1) < 30)) = true := by rfl) (h3 : (apos.endLine == cpos.line) = true := by rfl)
    (h4 : starEach (e :: es) X.env = (false, eval e X.env) :: starEach es X.env := by rfl) (h5 : (backTo cpos (starEach es X.env)).any (·.1) = false := by rfl) (hK : X.K = K := by rfl) :
    DE Γ X M (.Call (.Attribute o name apos) (e :: es) [] cpos) (tBM K "str" r to tr) (vM op f fr) m := by
  subst hK
  exact ⟨pe_bm PySem.F.plainAttrs_str slot hty md.mt ho.pe ha.pa h1 h2 h3 h4 h5, fun S0 H0 S H σ δ Q d w ef k => by
    obtain ⟨a, e1, e2⟩ := bind_some ef
    obtain ⟨ds, e3, e4⟩ := bind_some e2
    refine ho.snd S0 H0 S H σ δ _ a w e1 fun v S1 H1 x1 r1 _ => ?_
    cases a with
    | str x =>
      obtain ⟨ev, hl⟩ := r1.str (w.mono x1).h0
      subst ev
      refine ⟨rfl, ?_⟩
      exact ha.snd S0 H0 S1 H1 σ δ _ ds (w.mono x1) e3 fun vs S2 H2 x2 r2 => md.snd S2 H2 x ds vs d Q x2.sh hl r2 e4 ((k.ext (x1.trans x2)).h0 hm)
    | _ => cases e4⟩
def vM0 (op : Str → List D → Option D) (f : Ev) : Ev := fun δ => (f δ).bind fun a => match a with | .str x => op x [] | _ => none
theorem de_bm0 (K : PySem.W.Frag) (slot : Slot "str" name id) (hty : typeOf (.builtin id) = pure (.type "method_descriptor")) (md : MD Γ X id r op [] m) (ho : DE Γ X M o to f mo) (hm : okS m = true := by rfl)
    (h1 : attributeBase o name X.env (eval o X.env) = eval o X.env := by rfl) (h3 : (apos.endLine == cpos.line) = true := by rfl) (hK : X.K = K := by rfl) :
    DE Γ X M (.Call (.Attribute o name apos) [] [] cpos) (tBM0 K "str" r to) (vM0 op f) m := by
  subst hK
  exact ⟨pe_bm0 PySem.F.plainAttrs_str slot hty md.mt ho.pe h1 h3, fun S0 H0 S H σ δ Q d w ef k => by
    obtain ⟨a, e1, e4⟩ := bind_some ef
    refine ho.snd S0 H0 S H σ δ _ a w e1 fun v S1 H1 x1 r1 _ => ?_
    cases a with
    | str x =>
      obtain ⟨ev, hl⟩ := r1.str (w.mono x1).h0
      subst ev
      exact ⟨rfl, md.snd S1 H1 x [] [] d Q x1.sh hl ⟨rfl, rfl⟩ e4 ((k.ext x1).h0 hm)⟩
    | _ => cases e4⟩
/-! the methods -/
theorem ArgMs.str1 {K : PySem.W.Frag} {S H : Hp} {m : Mode} {y : Str} {vs : List V} (r : ArgMs K Γ S H [m] [.str y] vs) : vs = [.str y] ∧ y.length ≤ sizeLine := by
  obtain ⟨v, e, r1⟩ := ArgMs.get1 r
  obtain ⟨e2, h⟩ := r1.str (Same.refl _)
  exact ⟨by rw [e, e2], h⟩
def mFind (x : Str) : List D → Option D
  | [.str y] => some (.int (Txt.find x y))
  | _ => none
theorem md_find : MD Γ X "str.find" (fun x xs H Q => ∃ a b, x = .str a ∧ xs = [.str b] ∧ Q (.int (Txt.find a b)) H) mFind [.sh] .sh := ⟨mt_find, fun S H x ds vs d Q sh hx r e k => by
  match ds, e, r with
  | [.str y], e, r => cases e; exact ⟨x, y, rfl, r.str1.1, k.flat sh rfl⟩⟩
def mCount (x : Str) : List D → Option D
  | [.str y] => some (.int (Txt.count x y))
  | _ => none
theorem md_count : MD Γ X "str.count" (fun x xs H Q => ∃ a b, x = .str a ∧ xs = [.str b] ∧ Q (.int (Txt.count a b)) H) mCount [.sh] .sh := ⟨mt_count, fun S H x ds vs d Q sh hx r e k => by
  match ds, e, r with
  | [.str y], e, r => cases e; exact ⟨x, y, rfl, r.str1.1, k.flat sh rfl⟩⟩
def mLower (x : Str) : List D → Option D
  | [] => if x.length ≤ 5592405 ∧ (Txt.lower x).length ≤ sizeLine then some (.str (Txt.lower x)) else none
  | _ => none
theorem md_lower : MD Γ X "str.lower" (fun x xs H Q => ∃ a, x = .str a ∧ xs = [] ∧ a.length ≤ 5592405 ∧ Q (.str (Txt.lower a)) H) mLower [] .sh := ⟨mt_lower, fun S H x ds vs d Q sh hx r e k => by
  match ds, e, r with
  | [], e, r => obtain ⟨c, rfl⟩ := ite_some e; exact ⟨x, rfl, r.2, c.1, k.flat sh ⟨rfl, c.2⟩⟩⟩
def mUpper (x : Str) : List D → Option D
  | [] => if x.length ≤ 5592405 ∧ (Txt.upper x).length ≤ sizeLine then some (.str (Txt.upper x)) else none
  | _ => none
theorem md_upper : MD Γ X "str.upper" (fun x xs H Q => ∃ a, x = .str a ∧ xs = [] ∧ a.length ≤ 5592405 ∧ Q (.str (Txt.upper a)) H) mUpper [] .sh := ⟨mt_upper, fun S H x ds vs d Q sh hx r e k => by
  match ds, e, r with
  | [], e, r => obtain ⟨c, rfl⟩ := ite_some e; exact ⟨x, rfl, r.2, c.1, k.flat sh ⟨rfl, c.2⟩⟩⟩
def strsOf : List D → Option (List Str)
  | [] => some []
  | .str i :: ds => (strsOf ds).map (i :: ·)
  | _ => none
theorem RepL.strsOf {K : PySem.W.Frag} {S : Hp} : ∀ {ds : List D} {vs : List V} {ns : List Str}, RepL K Γ S ds vs → strsOf ds = some ns → vs = ns.map V.str
  | [], _, _, r, h => by cases h; exact r
  | d :: ds, _, ns, ⟨v, ws, e, r, t⟩, h => by
    subst e
    cases d with
    | str i =>
      have h' : (Dl.strsOf ds).map (i :: ·) = some ns := h
      cases q : Dl.strsOf ds with
      | none => rw [q] at h'; cases h'
      | some ms => rw [q] at h'; cases h'; rw [List.map_cons, ← RepL.strsOf t q, r.1]
    | _ => cases h
end
end Dl
namespace Dl
open PySem L2
section
variable {X : Cx} {Γ : CM} {M M1 : List Mode} {E : WX} {rm : Mode}
/-- a, b = e1, e2 -/
def sPar (i j : Nat) (f : Env → Option (List D)) : Sv := fun δ => (f δ).bind fun ds => match ds with
  | [d, e] => some (.nx ((δ.set i (some d)).set j (some e)))
  | _ => none
theorem ds_par {i j : Nat} {x y : Str} {a b : Expr} {ta : TA} {f : Env → Option (List D)} {px py pt pos : Pos} {kt k2 pt2} (hc : X.calm = true) (hN : X.N.Nodup) (ha : DAr Γ X M [a, b] ta f [.sh, .sh]) (hM : (M.set i .sh).set j .sh = M1 := by rfl) (hi : X.N[i]? = some x := by rfl) (hj : X.N[j]? = some y := by rfl) (hij : i ≠ j := by decide)
    (hx : X.env.scope.names.lookup x = some .local := by rfl) (hy : X.env.scope.names.lookup y = some .local := by rfl) (l1 : i < M.length := by decide) (l2 : j < M.length := by decide)
    (hw : swappedStores [.Tuple [.Name x px, .Name y py] kt pt] (.Tuple [a, b] k2 pt2) X.env = pure (some [x, y]) := by rfl)
    (hs : swapsWithSole [.Tuple [.Name x px, .Name y py] kt pt] (.Tuple [a, b] k2 pt2) pos.line X.env = pure false := by rfl) :
    DS Γ X E rm M (.Assign [.Tuple [.Name x px, .Name y py] kt pt] (.Tuple [a, b] k2 pt2) pos) (tPar i j ta) (sPar i j f) M1 ([i] ++ [j]) :=
  ⟨ps_par hc hN hi hj hij hx hy ha.pa hw hs, fun S0 H0 S H σ δ Dn o w ef k => by
    subst hM
    obtain ⟨ds, e1, e2⟩ := bind_some ef
    match ds, e2, e1 with
    | [d, e], e2, e1 =>
      cases e2
      refine ha.snd S0 H0 S H σ δ _ _ w e1 fun vs S1 H1 x1 r1 => ?_
      obtain ⟨d', ds', v, vs', q1, q2, r, t⟩ := r1
      obtain ⟨e', es', v', vs2, q3, q4, r', t', t''⟩ := t
      cases q1
      cases q3
      subst q2 q4 t''
      have w1 := (w.mono x1).store l1 (.inl rfl) (m := .sh) r (fun z => by cases z) fun z => by cases z
      have w2 := w1.store (i := j) (by rw [List.length_set]; exact l2) (.inl rfl) (m := .sh) r' (fun z => by cases z) fun z => by cases z
      exact ⟨v, v', rfl, k S1 H1 _ x1.ss w2 (Fr.set.trans Fr.set)⟩⟩
def mJoin (x : Str) : List D → Option D
  | [.lst ds] => (strsOf ds).bind fun ys => if (ys.map (·.length)).sum + ys.length * x.length ≤ 16777216 ∧ (Txt.join x ys).length ≤ sizeLine then some (.str (Txt.join x ys)) else none
  | _ => none
theorem md_join (K : PySem.W.Frag) (hK : X.K = K := by rfl) : MD Γ X "str.join" (fun x xs H Q => ∃ a p, ∃ ys : List Str, x = .str a ∧ xs = [.ref p] ∧ (SqL K H p (ys.map V.str) ∨ SqT K H p (ys.map V.str)) ∧
    (ys.map (·.length)).sum + ys.length * a.length ≤ 16777216 ∧ Q (.str (Txt.join a ys)) H) mJoin [.bo] .sh := by
  subst hK
  exact ⟨mt_join, fun S H x ds vs d Q sh hx r e k => by
    match ds, e, r with
    | [.lst es], e, r =>
      obtain ⟨ys, e1, e2⟩ := bind_some e
      obtain ⟨c, rfl⟩ := ite_some e2
      obtain ⟨v, rfl, r1⟩ := ArgMs.get1 r
      obtain ⟨p, ws, ev, hp, hl, rl⟩ := r1.lst sh (Same.refl _)
      exact ⟨x, p, ys, rfl, by rw [ev], .inl (by rw [← RepL.strsOf rl e1]; exact SqL.of hp), c.1, k.flat sh ⟨rfl, c.2⟩⟩⟩
end
end Dl
namespace Dl
open PySem L2
section
variable {X : Cx} {Γ : CM} {M : List Mode} {pos : Pos}
theorem de_gstr {x s : Str} {t : Tok} (hm : X.mg x = some (.str s t)) (hl : s.length ≤ sizeLine := by decide +kernel) (hg : Gl X x := by rfl) (hd : (x == ("__debug__" : Str)) = false := by decide) : DE Γ X M (.Name x pos) (tC (.str s)) (vC (.str s)) .sh := de_glob hg hm ⟨_, rfl⟩ (fun _ => ⟨rfl, hl⟩) hd
theorem de_gint {x : Str} {i : Int} {t : Tok} (hm : X.mg x = some (.int i t)) (hg : Gl X x := by rfl) (hd : (x == ("__debug__" : Str)) = false := by decide) : DE Γ X M (.Name x pos) (tC (.int i)) (vC (.int i)) .sh := de_glob hg hm ⟨_, rfl⟩ (fun _ => rfl) hd
end
end Dl
/-! dicts: displays, stores; stores into lists. -/
namespace Dl
open PySem L2
section
variable {κ : Type} [DecidableEq κ]
def putD (kvs : List (κ × D)) (k : κ) (d : D) : List (κ × D) := if (kvs.any fun kv => decide (kv.1 = k)) = true then kvs.map (fun kv => if kv.1 = k then (kv.1, d) else kv) else kvs ++ [(k, d)]
def mergeD (kvs more : List (κ × D)) : List (κ × D) := more.foldl (fun acc kv => putD acc kv.1 kv.2) kvs
end
section
variable {K : PySem.W.Frag} {Γ : CM} {S H : Hp}
theorem RepK.any (k : Key) : ∀ {ds : List (Key × D)} {vs : List (Key × V)}, RepK K Γ S ds vs → (vs.any fun kv => decide (kv.1 = k)) = ds.any fun kv => decide (kv.1 = k)
  | [], _, h => by cases (show _ = [] from h); rfl
  | (j, d) :: ds, _, ⟨v, ws, e, r, t⟩ => by subst e; rw [List.any_cons, List.any_cons, RepK.any k t]
theorem RepK.map {k : Key} {d : D} {v : V} (r : Rep K Γ S d v) : ∀ {ds : List (Key × D)} {vs : List (Key × V)}, RepK K Γ S ds vs → RepK K Γ S (ds.map fun kv => if kv.1 = k then (kv.1, d) else kv) (vs.map fun kv => if kv.1 = k then (kv.1, v) else kv)
  | [], _, h => by cases (show _ = [] from h); rfl
  | (j, x) :: ds, _, ⟨y, ws, e, q, t⟩ => by
    subst e
    rw [List.map_cons, List.map_cons]
    by_cases c : j = k
    · subst c; rw [if_pos rfl, if_pos rfl]; exact ⟨v, _, rfl, r, RepK.map r t⟩
    · rw [if_neg c, if_neg c]; exact ⟨y, _, rfl, q, RepK.map r t⟩
theorem RepK.snoc {k : Key} {d : D} {v : V} (r : Rep K Γ S d v) : ∀ {ds : List (Key × D)} {vs : List (Key × V)}, RepK K Γ S ds vs → RepK K Γ S (ds ++ [(k, d)]) (vs ++ [(k, v)])
  | [], _, h => by cases (show _ = [] from h); exact ⟨v, [], rfl, r, rfl⟩
  | (j, x) :: ds, _, ⟨y, ws, e, q, t⟩ => by subst e; exact ⟨y, _, rfl, q, RepK.snoc r t⟩
theorem RepK.put {k : Key} {d : D} {v : V} {ds : List (Key × D)} {vs : List (Key × V)} (h : RepK K Γ S ds vs) (r : Rep K Γ S d v) : RepK K Γ S (putD ds k d) (putK vs k v) := by
  unfold putD putK
  rw [h.any k]
  by_cases c : (ds.any fun kv => decide (kv.1 = k)) = true
  · rw [if_pos c, if_pos c]; exact RepK.map r h
  · rw [if_neg c, if_neg c]; exact RepK.snoc r h
theorem RepK.len : ∀ {ds : List (Key × D)} {vs : List (Key × V)}, RepK K Γ S ds vs → vs.length = ds.length
  | [], _, h => by cases (show _ = [] from h); rfl
  | (j, d) :: ds, _, ⟨v, ws, e, r, t⟩ => by subst e; rw [List.length_cons, List.length_cons, RepK.len t]
theorem RepK.merge : ∀ {more : List (Key × D)} {ms : List (Key × V)} {ds : List (Key × D)} {vs : List (Key × V)}, RepK K Γ S more ms → RepK K Γ S ds vs → RepK K Γ S (mergeD ds more) (mergeK vs ms)
  | [], _, _, _, h, q => by cases (show _ = [] from h); exact q
  | (j, x) :: more, _, ds, vs, ⟨y, ws, e, r, t⟩, q => by
    subst e
    show RepK K Γ S (mergeD (putD ds j x) more) (mergeK (putK vs j y) ws)
    exact RepK.merge t (q.put r)
theorem RepT.any (k : List Key) : ∀ {ds : List (List Key × D)} {vs : List (List Key × V)}, RepT K Γ S ds vs → (vs.any fun kv => decide (kv.1 = k)) = ds.any fun kv => decide (kv.1 = k)
  | [], _, h => by cases (show _ = [] from h); rfl
  | (j, d) :: ds, _, ⟨v, ws, e, r, t⟩ => by subst e; rw [List.any_cons, List.any_cons, RepT.any k t]
theorem RepT.map {k : List Key} {d : D} {v : V} (r : Rep K Γ S d v) : ∀ {ds : List (List Key × D)} {vs : List (List Key × V)}, RepT K Γ S ds vs → RepT K Γ S (ds.map fun kv => if kv.1 = k then (kv.1, d) else kv) (vs.map fun kv => if kv.1 = k then (kv.1, v) else kv)
  | [], _, h => by cases (show _ = [] from h); rfl
  | (j, x) :: ds, _, ⟨y, ws, e, q, t⟩ => by
    subst e
    rw [List.map_cons, List.map_cons]
    by_cases c : j = k
    · subst c; rw [if_pos rfl, if_pos rfl]; exact ⟨v, _, rfl, r, RepT.map r t⟩
    · rw [if_neg c, if_neg c]; exact ⟨y, _, rfl, q, RepT.map r t⟩
theorem RepT.snoc {k : List Key} {d : D} {v : V} (r : Rep K Γ S d v) : ∀ {ds : List (List Key × D)} {vs : List (List Key × V)}, RepT K Γ S ds vs → RepT K Γ S (ds ++ [(k, d)]) (vs ++ [(k, v)])
  | [], _, h => by cases (show _ = [] from h); exact ⟨v, [], rfl, r, rfl⟩
  | (j, x) :: ds, _, ⟨y, ws, e, q, t⟩ => by subst e; exact ⟨y, _, rfl, q, RepT.snoc r t⟩
theorem RepT.put {k : List Key} {d : D} {v : V} {ds : List (List Key × D)} {vs : List (List Key × V)} (h : RepT K Γ S ds vs) (r : Rep K Γ S d v) : RepT K Γ S (putD ds k d) (putK vs k v) := by
  unfold putD putK
  rw [h.any k]
  by_cases c : (ds.any fun kv => decide (kv.1 = k)) = true
  · rw [if_pos c, if_pos c]; exact RepT.map r h
  · rw [if_neg c, if_neg c]; exact RepT.snoc r h
theorem RepT.len : ∀ {ds : List (List Key × D)} {vs : List (List Key × V)}, RepT K Γ S ds vs → vs.length = ds.length
  | [], _, h => by cases (show _ = [] from h); rfl
  | (j, d) :: ds, _, ⟨v, ws, e, r, t⟩ => by subst e; rw [List.length_cons, List.length_cons, RepT.len t]
end
/-! ### displays -/
def SndPs (K : PySem.W.Frag) (Γ : CM) (M : List Mode) (trs : List (TE × TE)) (f : Env → Option (List (Key × D))) : Prop :=
  ∀ S0 H0 S H σ δ Q ps, Wd K Γ S0 H0 S H σ M δ → f δ = some ps → (∀ kvs S' H', Ext S H S' H' → RepK K Γ S' ps kvs → Q (kvs.map fun kv => (kV kv.1, kv.2)) H') → tPairs trs σ H Q
structure DPs (Γ : CM) (X : Cx) (M : List Mode) (pos : Pos) (keys : List (Option Expr)) (values : List Expr) (trs : List (TE × TE)) (f : Env → Option (List (Key × D))) : Prop where
  pp : PPs X pos keys values trs
  snd : SndPs X.K Γ M trs f
section
variable {X : Cx} {Γ : CM} {M : List Mode} {k e : Expr} {ks : List (Option Expr)} {es : List Expr} {tk te : TE} {trs : List (TE × TE)} {f g : Ev} {h : Env → Option (List (Key × D))} {m m' : Mode} {pos : Pos}
def pNil : Env → Option (List (Key × D)) := fun _ => some []
def pCons (f g : Ev) (h : Env → Option (List (Key × D))) : Env → Option (List (Key × D)) := fun δ => (f δ).bind fun a => (keyD a).bind fun k => (g δ).bind fun d => (h δ).map ((k, d) :: ·)
theorem dp_nil : DPs Γ X M pos [] [] [] pNil := ⟨pps_nil, fun S0 H0 S H σ δ Q ps w ef k => by cases ef; exact k [] S H (Ext.refl w.sH) rfl⟩
theorem dp_cons (hk : DE Γ X M k tk f m) (hv : DE Γ X M e te g m') (hr : DPs Γ X M pos ks es trs h) (hm : okS m' = true := by rfl) : DPs Γ X M pos (some k :: ks) (e :: es) ((tk, te) :: trs) (pCons f g h) :=
  ⟨pps_cons hk.pe hv.pe hr.pp, fun S0 H0 S H σ δ Q ps w ef q => by
    obtain ⟨a, e1, e2⟩ := bind_some ef
    obtain ⟨j, e3, e4⟩ := bind_some e2
    obtain ⟨d, e5, e6⟩ := bind_some e4
    cases z : h δ with
    | none => rw [z] at e6; cases e6
    | some r =>
      rw [z] at e6; cases e6
      refine hk.snd S0 H0 S H σ δ _ a w e1 fun v S1 H1 x1 r1 _ => ?_
      have rk : Rep X.K Γ S1 a v := by
        cases a with
        | int i => exact r1.int (w.mono x1).h0
        | str x => exact r1.str (w.mono x1).h0
        | _ => cases e3
      have ev := rk.key e3
      subst ev
      refine (hv.snd.sh hm) S0 H0 S1 H1 σ δ _ d (w.mono x1) e5 fun u S2 H2 x2 r2 _ => ?_
      refine hr.snd S0 H0 S2 H2 σ δ _ r ((w.mono x1).mono x2) z fun kvs S3 H3 x3 r3 => ?_
      exact q ((j, u) :: kvs) S3 H3 ((x1.trans x2).trans x3) ⟨u, kvs, rfl, Rep.mono x3.ss r2, r3⟩⟩
def vDict (h : Env → Option (List (Key × D))) : Ev := fun δ => (h δ).bind fun ps => if ps.length ≤ 15 then some (.dicK (mergeD [] ps)) else none
theorem de_dict (hp : DPs Γ X M pos ks es trs h) (hall : ks.all (·.isSome) = true := by rfl) (hl : ks.length = es.length := by rfl) (h0 : ks ≠ [] := by decide) (h15 : ks.length ≤ 15 := by decide) : DE Γ X M (.Dict ks es pos) (tDisp trs) (vDict h) .ow :=
  ⟨pe_disp hp.pp hall hl h0 h15, fun S0 H0 S H σ δ Q d w ef k => by
    obtain ⟨ps, e1, e2⟩ := bind_some ef
    obtain ⟨hl, rfl⟩ := ite_some e2
    intro p hp'
    refine hp.snd S0 H0 S (upd H p (.dK [])) σ δ _ ps (w.mono (Ext.owned w.sH hp' _)) e1 fun kvs S1 H1 x1 r1 => ?_
    have np : S1 p = none := x1.fr p _ upd_same rfl (w.sH.free hp')
    refine ⟨x1.hh _ _ upd_same, kvs, rfl, by rw [r1.len]; exact hl, ?_⟩
    refine k (.ref p) S1 _ ⟨x1.ss, fun b o hb => ?_, fun b o hb => ?_, fun b o hb tt nb => ?_⟩ ⟨p, rfl, np, _, upd_same, r1.merge rfl⟩ fun _ a ea => by cases ea; exact hp'
    · have ne : b ≠ p := fun q => by rw [q, hp'] at hb; cases hb
      rw [upd_ne ne]; exact x1.hh _ _ (by rw [upd_ne ne]; exact hb)
    · have ne : b ≠ p := fun q => by rw [q, np] at hb; cases hb
      rw [upd_ne ne]; exact x1.sh _ _ hb
    · have ne : b ≠ p := fun q => by rw [q, hp'] at hb; cases hb
      exact x1.fr b o (by rw [upd_ne ne]; exact hb) tt nb⟩
theorem de_dicK0 : DE Γ X M (.Dict [] [] pos) tDNewK (vC (.dicK [])) .ow := ⟨pe_dnewK, fun S0 H0 S H σ δ Q d w ef k => by
  cases ef
  intro p hp
  exact k (.ref p) S _ (Ext.owned w.sH hp _) ⟨p, rfl, w.sH.free hp, [], upd_same, rfl⟩ fun _ a ea => by cases ea; exact hp⟩
theorem de_dicT0 : DE Γ X M (.Dict [] [] pos) tDNewT (vC (.dicT [])) .ow := ⟨pe_dnewT, fun S0 H0 S H σ δ Q d w ef k => by
  cases ef
  intro p hp
  exact k (.ref p) S _ (Ext.owned w.sH hp _) ⟨p, rfl, w.sH.free hp, [], upd_same, rfl⟩ fun _ a ea => by cases ea; exact hp⟩
end
/-! ### stores -/
def rSetAny : V → V → V → Hp → (Hp → Prop) → Prop := fun o i v H Q => rSetL o i v H Q ∨ ∃ a H', o = .ref a ∧ DPut H a i v H' ∧ Q H'
theorem set_any {X : Cx} (hu : X.A.units + 64 < cLine) : PSet X rSetAny := by
  intro pins s σ H o i v ov iv u Q I ro ri rv h
  rcases h with h | ⟨a, H', rfl, g, q⟩
  · exact set_list pins s σ H o i v ov iv u Q I ro ri rv h
  · cases ro
    exact d_setItem (by omega) I g ri rv fun s4 I4 => ⟨H', I4, q⟩
def opPut (o k d : D) : Option D := match o with
  | .lst ds => match k with
    | .int i => (ixN ds.length i).map fun j => .lst (ds.set j d)
    | _ => none
  | .dicK kvs => (keyD k).bind fun j => if kvs.length < sizeLine then some (.dicK (putD kvs j d)) else none
  | .dicT kvs => (keysD k).bind fun j => if kvs.length < sizeLine then some (.dicT (putD kvs j d)) else none
  | _ => none
def sPut (i : Nat) (fk fv : Ev) : Sv := fun δ => (fv δ).bind fun d => (fk δ).bind fun k => (vVar i δ).bind fun o => (opPut o k d).map fun o' => .nx (δ.set i (some o'))
section
variable {X : Cx} {Γ : CM} {E : WX} {rm m m' : Mode} {M : List Mode} {e a b : Expr} {te ta tb : TE} {f g : Ev} {pos apos cpos : Pos} {K : PySem.W.Frag}
theorem map_some {α β : Type} {o : Option α} {k : α → β} {d : β} (h : o.map k = some d) : ∃ a, o = some a ∧ k a = d := by
  cases o with
  | none => cases h
  | some a => exact ⟨a, rfl, Option.some.inj h⟩
theorem ds_put {i : Nat} {x : Str} {p : Pos} (hM : md M i = .ow) (hu : X.A.units + 64 < cLine) (hk : DE Γ X M a ta f m) (he : DE Γ X M e te g m') (hm : okS m = true := by rfl) (hm' : okS m' = true := by rfl) (hN : X.N[i]? = some x := by rfl) (hv : Vis X.env.scope x := by first | exact Or.inl rfl | exact Or.inr (Or.inl rfl) | exact Or.inr (Or.inr rfl)) (hd : (x == ("__debug__" : Str)) = false := by decide)
    (hcd : (x == ("__classdict__" : Str)) = false := by decide)
    (ha : ∀ v, assign (.Subscript (.Name x p) a apos) X.env v = (do
      let ov ← holding [v] (eval (.Name x p) X.env)
      let iv ← holding [v, ov] (eval a X.env)
      standAt apos
      holding [v, ov, iv] (setItem ov iv v)
      release [v, ov, iv] []) := by intro _; rfl)
    (hs : swapsWithSole [.Subscript (.Name x p) a apos] e pos.line X.env = pure false := by rfl) (hw : swappedStores [.Subscript (.Name x p) a apos] e X.env = pure none := by rfl)
    (h1 : (assignEach [.Subscript (.Name x p) a apos] X.env).map (·.2) = [assign (.Subscript (.Name x p) a apos) X.env] := by rfl) :
    DS Γ X E rm M (.Assign [.Subscript (.Name x p) a apos] e pos) (tAsg te (gSub (tVar i) ta rSetAny)) (sPut i f g) M [] :=
  ⟨ps_asg he.pe (pg_sub (pe_var hN hv hd hcd) hk.pe (set_any hu) ha) hs hw h1, fun S0 H0 S H σ δ Dn o w ef k => by
    obtain ⟨d, e1, e2⟩ := bind_some ef
    obtain ⟨kd, e3, e4⟩ := bind_some e2
    obtain ⟨l, e5, e6⟩ := bind_some e4
    obtain ⟨l', e7, rfl⟩ := map_some e6
    refine (he.snd.sh hm') S0 H0 S H σ δ _ d w e1 fun v S1 H1 x1 r1 _ => ?_
    have w1 := w.mono x1
    have hl := vVar_some e5
    obtain ⟨p', hp, hS, top⟩ := w1.owned hM hl
    refine ⟨_, hp, ?_⟩
    refine (hk.snd.sh hm) S0 H0 S1 H1 σ δ _ kd w1 e3 fun u S2 H2 x2 r2 _ => ?_
    have w2 := w1.mono x2
    have hS2 : S2 p' = none := by
      obtain ⟨o, ho, ht⟩ := top.there2
      exact x2.fr _ _ ho ht hS
    have top2 := top.mono x2.ss fun o h => x2.hh _ _ h
    have r1 := Rep.mono x2.ss r1
    have ss : Same S S2 := x1.ss.trans x2.ss
    cases l with
    | lst ds =>
      obtain ⟨vs, hH, hz, rl⟩ := top2
      cases kd with
      | int j =>
        obtain ⟨q, e8, rfl⟩ := map_some e7
        cases (show u = .int j from r2)
        exact .inl ⟨p', vs, j, q, rfl, rfl, hH, by rw [rl.length]; exact e8, k S2 _ σ ss (w2.write hM hl hp ⟨_, upd_same, by rw [List.length_set]; exact hz, rl.set r1 q⟩) Fr.refl⟩
      | _ => cases e7
    | dicK kvs =>
      obtain ⟨vs, hH, rl⟩ := top2
      obtain ⟨j, e8, e9⟩ := bind_some e7
      obtain ⟨hz, rfl⟩ := ite_some e9
      rw [r2.key e8]
      exact .inr ⟨p', _, rfl, DPut.k hH (by rw [rl.len]; exact hz), k S2 _ σ ss (w2.write hM hl hp ⟨_, upd_same, rl.put r1⟩) Fr.refl⟩
    | dicT kvs =>
      obtain ⟨vs, hH, rl⟩ := top2
      obtain ⟨j, e8, e9⟩ := bind_some e7
      obtain ⟨hz, rfl⟩ := ite_some e9
      obtain ⟨b, rfl, hb⟩ := r2.keys e8
      exact .inr ⟨p', _, rfl, DPut.t hH (w2.sH _ _ hb) (by rw [rl.len]; exact hz), k S2 _ σ ss (w2.write hM hl hp ⟨_, upd_same, rl.put r1⟩) Fr.refl⟩
    | _ => cases e7⟩
end
end Dl
/-! sorted(set(xs)) of a list of ints; sorted(xs). -/
namespace Dl
open PySem L2 PySem.Spec PyProof.Rows
abbrev setObj (w : World) : Obj := { cls := .type "set", dict := none, data := .set #[] 0 (.fresh 0 0 (!w.params.followText "set-order")) }
section
variable {P : Program} {w : World} {A : Around} {E : Value → Shared → Prop} {s : Shared}
set_option maxHeartbeats 3200000 in
/-- set(xs), xs a list of ints: a set that can be walked -/
theorem set_of_ints {l : Addr} {items : Array Value} (ns : List Int) {Q : Value → Shared → Prop} (hh : A.handled = none) (hl : s.heap.IsList l items) (hit : IntsAre items.toList ns) (hb : ns.length + 1 < scanBound)
    (h : ∀ (h' : Heap) (tk c : Nat), SetR w h' s.heap.objs.size (fun j => decide (j ∈ ns)) c → c ≤ ns.length → (∀ b o, s.heap.get? b = some o → h'.get? b = some o) → Q (.ref s.heap.objs.size) { s with heap := h', toks := tk }) :
    wpAny (model P w) A (call (.type "set") [.ref l]) Q E s := by
  have sz : items.size = ns.length := by
    rw [← Array.length_toList]
    exact IntsAre.length hit
  obtain ⟨c, tl, hmro⟩ := PySem.F.called_set.mro
  have f1 := PySem.F.called_set.made
  have f2 := PySem.F.called_set.sub
  have f3 := PySem.F.called_set.notType
  have f4 := PySem.F.called_set.canCreate
  have f5 := PySem.F.typeCall_set_1 (.ref l)
  refine wpAny_call (codeAny_of_tree ?_)
  show wpAny _ _ (callAny (.type "set") _) _ _ _
  refine wpAny_pure ⟨Code.quiet_builtin _ (by decide +kernel), codeAny_builtin PySem.F.entry_type_call ?_⟩
  rw [Around.under_plain (weight_type_call_type "set" [.ref l] []) rfl]
  repeat (any_goals (first | assumption | wp_step))
  refine codeAny_mono (code_set_led1 (.ref l) (E := E) (Q₁ := fun o s₁ => o = .ref s.heap.objs.size ∧ s₁ = { s with heap := s.heap.push (setObj w) }) ⟨rfl, rfl⟩) fun r s₁ hr => ?_
  match r, hr with
  | .error e, hr => exact hr
  | .ok (.ret obj), hr =>
    obtain ⟨rfl, rfl⟩ := hr
    have g1 : (s.heap.push (setObj w)).get? s.heap.objs.size = some (setObj w) := Heap.get?_push_size _ rfl
    have g2 : Shared.TypeIs { s with heap := s.heap.push (setObj w) } (.ref s.heap.objs.size) "set" := ⟨_, g1, rfl⟩
    have f6 := PySem.F.called_set.init.lookup
    have f7 := PySem.F.called_set.init.bind (.ref s.heap.objs.size)
    repeat (any_goals (first | assumption | wp_step))
    refine codeAny_mono (codeAny_call_builtin (R := wants (fun r s₂ => r = .none ∧ ∃ h' tk c, s₂ = { s with heap := h', toks := tk } ∧ SetR w h' s.heap.objs.size (fun j => decide (j ∈ ns)) c ∧ c ≤ ns.length ∧
        (∀ b o, s.heap.get? b = some o → h'.get? b = some o)) E) PySem.F.called_set.init.plain PySem.F.entry_set_init (check_set_init_1 g2 ?_)) fun r₂ s₂ hr₂ => ?_
    · obtain ⟨ol, hol, hcl, nl, hdl⟩ := hl
      obtain ⟨ocls, odict, odata, oslots⟩ := ol
      simp only at hcl hdl
      subst hcl hdl
      have hol' : (s.heap.push (setObj w)).get? l = some { cls := .type "list", dict := odict, data := .seq items nl, slots := oslots } := Heap.get?_push_of_some _ hol
      have f8 := PySem.F.sub_list_set
      have f9 := PySem.F.sub_list_frozenset
      have hne : (Value.type "list" == Value.type "dict") = false := by decide
      have hl1 : (s.heap.push (setObj w)).IsList l items := ⟨_, hol', rfl, nl, rfl⟩
      unfold Builtin.«set.__init__» noKeywords Builtin.Frozenset.updateFrom
      generalize hPI : pyIter = PI
      wp_walk
      subst hPI
      refine wpAny_pyIter_list hl1 ?_
      refine wpAny_bind (wpAny_runValue ?_)
      have lS : l < s.heap.objs.size := Heap.lt_size hol
      have hh3 : A.in1.in1.in1.handled = none := by simp [hh]
      have n1 : l ≠ (s.heap.push (setObj w)).objs.size := by rw [Heap.size_push]; exact Nat.ne_of_lt (Nat.lt_succ_of_lt lS)
      have n2 : s.heap.objs.size ∉ [(s.heap.push (setObj w)).objs.size, l] := by
        rw [Heap.size_push]
        simp only [List.mem_cons, List.not_mem_nil, or_false, not_or]
        exact ⟨Nat.ne_of_lt (Nat.lt_succ_self _), Nat.ne_of_gt lS⟩
      have hval : ∀ (i : Nat) (v : Value), items[i]? = some v → ∃ k t, ns[i]? = some k ∧ v = .int k t := fun i v hv => by
        have hi : i < ns.length := by rw [← sz]; exact (Array.getElem?_eq_some_iff.mp hv).1
        obtain ⟨t, e⟩ := IntsAre.int_at hit i v (by rw [Array.getElem?_toList]; exact hv)
        exact ⟨ns[i], t, List.getElem?_eq_getElem hi, by rw [e, List.getD_eq_getElem?_getD, List.getElem?_eq_getElem hi] <;> rfl⟩
      refine set_update_ints ((Walks.list hh3 _ l n1 items).toS) s.heap.objs.size n2 ns sz hb hval (items.size - 0) 0 _ (by omega) (Nat.zero_le _) ⟨⟨_, Heap.get?_push_size _ rfl, rfl, rfl⟩, (hl1.push _)⟩ ?a0 ?aR
      case a0 => exact ⟨0, Nat.le_refl 0, setR_new_at (Heap.get?_push_of_some _ g1)⟩
      case aR =>
        intro s' c' hm hc' hS'
        obtain ⟨h', g', d', tk', os'⟩ := s'
        have eg : g' = s.gens := hm.gens
        have ed : d' = s.drawn := hm.drawn
        have eo : os' = s.os := hm.os
        subst eg ed eo
        show wpAny _ _ _ _ _ _
        refine wpAny_pure ?_
        show wpAny _ _ (ret Value.none) _ _ _
        refine wpAny_pure ⟨rfl, h', tk', c', rfl, hS', by omega, fun b o e => ?_⟩
        have hb0 := Heap.lt_size e
        refine hm.heap b o ?_ (Heap.get?_push_of_some _ (Heap.get?_push_of_some _ e))
        simp only [List.mem_cons, List.not_mem_nil, or_false, not_or]
        refine ⟨Nat.ne_of_lt hb0, ?_⟩
        rw [Heap.size_push]
        exact Nat.ne_of_lt (Nat.lt_succ_of_lt hb0)
    · match r₂, hr₂ with
      | .error e, hr₂ => exact hr₂
      | .ok (.ret r), hr₂ =>
        obtain ⟨rfl, h', tk, c', rfl, hS', hc', hk'⟩ := hr₂
        repeat (any_goals (first | assumption | wp_step))
        exact h _ _ _ hS' hc' hk'
      | .ok .next, hr₂ => exact hr₂.elim
      | .ok .brk, hr₂ => exact hr₂.elim
      | .ok .cont, hr₂ => exact hr₂.elim
  | .ok .next, hr => exact hr.elim
  | .ok .brk, hr => exact hr.elim
  | .ok .cont, hr => exact hr.elim
end

/-! ### sorted(set(xs)) -/
theorem RepL.of_ints {K : PySem.W.Frag} {Γ : CM} {S : Hp} : ∀ ns : List Int, RepL K Γ S (ns.map D.int) (ns.map V.int)
  | [] => rfl
  | n :: ns => ⟨.int n, _, rfl, rfl, RepL.of_ints ns⟩
def insU (x : Int) : List Int → List Int
  | [] => [x]
  | y :: l => if x < y then x :: y :: l else if x = y then y :: l else y :: insU x l
/-- the numbers of a list, rising, each once -/
def setSort (ns : List Int) : List Int := ns.foldr insU []
theorem mem_insU {x k : Int} : ∀ {l : List Int}, k ∈ insU x l ↔ k = x ∨ k ∈ l
  | [] => by simp [insU]
  | y :: l => by
    unfold insU
    split
    · simp
    · split
      · rename_i h; subst h; simp
      · rw [List.mem_cons, mem_insU (l := l), List.mem_cons]
        constructor
        · rintro (h | h | h)
          · exact .inr (.inl h)
          · exact .inl h
          · exact .inr (.inr h)
        · rintro (h | h | h)
          · exact .inr (.inl h)
          · exact .inl h
          · exact .inr (.inr h)
theorem insU_ris {x : Int} : ∀ {l : List Int}, l.Pairwise (· < ·) → (insU x l).Pairwise (· < ·)
  | [], _ => by simp [insU]
  | y :: l, h => by
    obtain ⟨h1, h2⟩ := List.pairwise_cons.mp h
    unfold insU
    split
    · rename_i c
      refine List.pairwise_cons.mpr ⟨fun z hz => ?_, h⟩
      rcases List.mem_cons.mp hz with e | hz
      · omega
      · have := h1 z hz; omega
    · split
      · exact h
      · rename_i c d
        refine List.pairwise_cons.mpr ⟨fun z hz => ?_, insU_ris h2⟩
        rcases mem_insU.mp hz with e | hz
        · omega
        · exact h1 z hz
theorem setSort_mem {k : Int} : ∀ {ns : List Int}, k ∈ setSort ns ↔ k ∈ ns
  | [] => Iff.rfl
  | n :: ns => by
    show k ∈ insU n (setSort ns) ↔ _
    rw [mem_insU, setSort_mem (ns := ns), List.mem_cons]
theorem setSort_ris : ∀ ns : List Int, (setSort ns).Pairwise (· < ·)
  | [] => .nil
  | n :: ns => insU_ris (setSort_ris ns)
theorem ris_eq : ∀ {l m : List Int}, l.Pairwise (· < ·) → m.Pairwise (· < ·) → (∀ k, k ∈ l ↔ k ∈ m) → l = m
  | [], [], _, _, _ => rfl
  | [], y :: m, _, _, h => absurd ((h y).mpr List.mem_cons_self) (by simp)
  | x :: l, [], _, _, h => absurd ((h x).mp List.mem_cons_self) (by simp)
  | x :: l, y :: m, hl, hm, h => by
    obtain ⟨l1, l2⟩ := List.pairwise_cons.mp hl
    obtain ⟨m1, m2⟩ := List.pairwise_cons.mp hm
    have e : x = y := by
      have a := (h x).mp List.mem_cons_self
      have b := (h y).mpr List.mem_cons_self
      rcases List.mem_cons.mp a with a | a
      · exact a
      · rcases List.mem_cons.mp b with b | b
        · exact b.symm
        · have := m1 x a; have := l1 y b; omega
    subst e
    rw [ris_eq l2 m2 fun k => ?_]
    constructor
    · intro hk
      rcases List.mem_cons.mp ((h k).mp (List.mem_cons_of_mem _ hk)) with e | q
      · have := l1 k hk; omega
      · exact q
    · intro hk
      rcases List.mem_cons.mp ((h k).mpr (List.mem_cons_of_mem _ hk)) with e | q
      · have := m1 k hk; omega
      · exact q
theorem setSort_eq {l ns : List Int} (r : l.Pairwise (· < ·)) (h : ∀ k, k ∈ l ↔ k ∈ ns) : setSort ns = l :=
  ris_eq (setSort_ris ns) r fun k => by rw [setSort_mem, h]
section
variable {X : Cx} {Γ : CM} {M : List Mode} {a : Expr} {ta : TE} {f : Ev} {m : Mode}
def tSortSet (K : PySem.W.Frag) (ta : TE) : TE := fun σ H Q => ta σ H fun x H1 => ∃ (l : Addr) (ns : List Int), x = .ref l ∧ SqL K H1 l (ns.map V.int) ∧ ns.length < 64 ∧
  ∀ (b : Addr) (o : HO) (p : Addr), H1 b = none → upd H1 b o p = none → Q (.ref p) (upd (upd H1 b o) p (.lst ((setSort ns).map V.int)))
theorem pe_sortSet {p p2 q pos : Pos} (hc : X.calm = true) (hg : Gl X "sorted") (hm : X.mg "sorted" = none) (hg2 : Gl X "set") (hm2 : X.mg "set" = none) (ha : PE X a ta)
    (na : starEach [a] X.env = (false, eval a X.env) :: starEach [] X.env := by rfl) : PE X (.Call (.Name "sorted" p) [.Call (.Name "set" p2) [a] [] q] [] pos) (tSortSet X.K ta) := by
  refine ⟨fun pins s σ H Q I h => ?_⟩
  refine PyProof.Rows.Call_ (ld_blt I hg hm PyProof.Rows.boot_sorted ?_)
  refine PyProof.Rows.callWith_builtin1 (PyProof.Rows.args_cons ?_ rfl) rfl rfl
  refine PyProof.Rows.Call_ (ld_blt I hg2 hm2 PyProof.Rows.boot_set ?_)
  refine PyProof.Rows.callWith_type1 (PyProof.Rows.args_cons (thn (ha.run pins s σ H _ I h) fun v s1 ⟨x, H1, I1, r1, q1⟩ => PyProof.Rows.args_nil ?_) na) na rfl
  obtain ⟨l, ns, rfl, hq, h64, q1⟩ := q1
  cases r1
  obtain ⟨its, r, pl, hz⟩ := I1.list hq
  refine set_of_ints ns (I1.ok.hd hc) pl.isList (by simpa using r.ints) (by unfold scanBound; omega) fun h' tk c hS hcl hk => ?_
  have I2 : Inv X pins σ (upd H1 s1.heap.objs.size (SetO X.w s1.heap.objs.size (fun j => decide (j ∈ ns)) c)) { s1 with heap := h', toks := tk } := I1.laid (t' := tk) hk (Nat.le_refl _) (setO_new hS)
  refine PyProof.Rows.args_nil ?_
  refine cr_sortedSet hc pins _ σ _ [.ref s1.heap.objs.size] _ Q I2 (.cons rfl .nil) ⟨_, _, c, rfl, upd_same, by omega, fun ms p ris mem len hp => ?_⟩
  have e : ms = setSort ns := (setSort_eq ris fun k => by rw [mem k, decide_eq_true_iff]).symm
  subst e
  exact q1 _ _ p (I1.hok.fresh (Nat.le_refl _)) hp
def vSortSet (f : Ev) : Ev := fun δ => (f δ).bind fun d => match d with
  | .lst ds => (intsOf ds).bind fun ns => if ns.length < 64 then some (.lst ((setSort ns).map D.int)) else none
  | _ => none
theorem insU_len (x : Int) : ∀ l : List Int, (insU x l).length ≤ l.length + 1
  | [] => by simp [insU]
  | y :: l => by
    have := insU_len x l
    unfold insU
    split
    · simp
    · split
      · simp
      · rw [List.length_cons, List.length_cons]; omega
theorem setSort_len : ∀ ns : List Int, (setSort ns).length ≤ ns.length
  | [] => Nat.le_refl _
  | n :: ns => by
    have a := insU_len n (setSort ns)
    have b := setSort_len ns
    show (insU n (setSort ns)).length ≤ ns.length + 1
    omega
theorem de_sortSet {p p2 q pos : Pos} (K : PySem.W.Frag) (hc : X.calm = true) (hm : X.mg "sorted" = none) (hm2 : X.mg "set" = none) (ha : DE Γ X M a ta f m) (hg : Gl X "sorted" := by rfl) (hg2 : Gl X "set" := by rfl)
    (na : starEach [a] X.env = (false, eval a X.env) :: starEach [] X.env := by rfl) (hK : X.K = K := by rfl) : DE Γ X M (.Call (.Name "sorted" p) [.Call (.Name "set" p2) [a] [] q] [] pos) (tSortSet K ta) (vSortSet f) .ow := by
  subst hK
  exact ⟨pe_sortSet hc hg hm hg2 hm2 ha.pe na, fun S0 H0 S H σ δ Q d w ef k => by
    obtain ⟨l, e1, e2⟩ := bind_some ef
    cases l with
    | lst ds =>
      obtain ⟨ns, e3, e4⟩ := bind_some e2
      obtain ⟨h64, rfl⟩ := ite_some e4
      refine ha.snd S0 H0 S H σ δ _ _ w e1 fun v S1 H1 x1 r1 _ => ?_
      obtain ⟨p, vs, ev, hp, hl, rl⟩ := r1.lst x1.sh (w.mono x1).h0
      refine ⟨p, ns, ev, by rw [← rl.intsOf e3]; exact SqL.of hp, h64, fun b o p2 hb hp2 => ?_⟩
      have xb := Ext.owned x1.sh hb o
      exact (k.ext (x1.trans xb)).newL rfl xb.sh (by rw [List.length_map]; have := setSort_len ns; exact le1000 (by omega)) (RepL.of_ints _) hp2
    | _ => cases e2⟩
end
end Dl
/-! classes: fields stored in __init__, made instances, methods; wipes; what is never reached. -/
namespace Dl
open PySem L2
/-! ### wipes; what is never reached -/
section
variable {X : Cx} {Γ : CM} {E : WX} {rm : Mode} {M M1 M2 : List Mode} {st : Stmt} {rest : List Stmt} {t u : TS} {s s' : Sv} {K : PySem.W.Frag}
theorem Wd.forget {S0 H0 S H : Hp} {σ : St} {δ : Env} (w : Wd K Γ S0 H0 S H σ M δ) (vs : List Nat) : Wd K Γ S0 H0 S H σ M (wipeE δ vs) :=
  ⟨w.ext, by rw [wipeE_len, w.len], fun i d h => w.slot i d (wipeE_some h).1, fun i d a h m s => w.own i d a (wipeE_some h).1 m s,
   fun i j di dj a h1 h2 m1 m2 s1 s2 => w.uniq i j di dj a (wipeE_some h1).1 (wipeE_some h2).1 m1 m2 s1 s2, w.nord⟩
def sWip (vs : List Nat) (s : Sv) : Sv := fun δ => s (wipeE δ vs)
theorem dss_wipe {ws : List Nat} (vs : List Nat) (h : DSs Γ X E rm M rest u s' M2 ws) : DSs Γ X E rm M rest u (sWip vs s') M2 ws := ⟨h.pss, fun S0 H0 S H σ δ Dn o w ef k => h.snd S0 H0 S H σ _ Dn o (w.forget vs) ef k⟩
def sNo : Sv := fun _ => none
theorem ds_never : DS Γ X E rm M st (fun _ _ _ => False) sNo M1 [] := ⟨⟨fun _ _ _ _ _ _ h => h.elim⟩, fun _ _ _ _ _ _ _ _ _ ef _ => by cases ef⟩
def vNo : Ev := fun _ => none
theorem de_never {e : Expr} {m : Mode} : DE Γ X M e (fun _ _ _ => False) vNo m := ⟨⟨fun _ _ _ _ _ _ h => h.elim⟩, fun _ _ _ _ _ _ _ _ _ ef _ => by cases ef⟩
end
/-! ### a walk over a list of one's own that stays -/
/-- a block leaves the datum in slot i -/
def Kp (i : Nat) (s : Sv) : Prop := ∀ δ δ1, s δ = some (.nx δ1) → δ1[i]? = δ[i]?
def KpG (i : Nat) (h : Hv) : Prop := ∀ d δ δ1, h d δ = some δ1 → δ1[i]? = δ[i]?
theorem kpg_name {i j : Nat} (n : j ≠ i) : KpG i (hName j) := fun d δ δ1 h => by cases h; exact List.getElem?_set_ne n
def KpGs (i : Nat) (h : List D → Env → Option Env) : Prop := ∀ d δ δ1, h d δ = some δ1 → δ1[i]? = δ[i]?
theorem kpgs_nil {i : Nat} : KpGs i hNil := fun d δ δ1 h => by cases d <;> cases h; rfl
theorem kpgs_cons {i : Nat} {h : Hv} {hs : List D → Env → Option Env} (a : KpG i h) (b : KpGs i hs) : KpGs i (hCons h hs) := fun d δ δ1 q => by
  cases d with
  | nil => cases q
  | cons d ds =>
    obtain ⟨δ2, e1, e2⟩ := bind_some q
    exact (b _ _ _ e2).trans (a _ _ _ e1)
theorem kpg_tup {i n : Nat} {hs : List D → Env → Option Env} (b : KpGs i hs) : KpG i (hTup n hs) := fun d δ δ1 q => by
  cases d with
  | tup ds =>
    have q : (if ds.length = n then hs ds δ else none) = some δ1 := q
    split at q
    · exact b _ _ _ q
    · cases q
  | _ => cases q
section
variable {i j : Nat} {s s' : Sv} {f g : Ev} {p : Env → Option Bool} {h : Hv} {it : Env → Option (List D)}
theorem kp_next : Kp i sNext := fun δ δ1 q => by cases q; rfl
theorem kp_ret : Kp i (sRet f) := fun δ δ1 q => by
  unfold sRet at q
  cases z : f δ with
  | none => rw [z] at q; cases q
  | some d => rw [z] at q; cases q
theorem kp_retN : Kp i sRetN := fun δ δ1 q => by cases q
theorem kp_no : Kp i sNo := fun δ δ1 q => by cases q
theorem kp_set (n : j ≠ i) : Kp i (sSet j f) := fun δ δ1 q => by
  unfold sSet at q
  cases z : f δ with
  | none => rw [z] at q; cases q
  | some d => rw [z] at q; cases q; exact List.getElem?_set_ne n
theorem kp_asg (n : KpG i h) : Kp i (sAsg f h) := fun δ δ1 q => by
  obtain ⟨d, e1, e2⟩ := bind_some q
  cases z : h d δ with
  | none => rw [z] at e2; cases e2
  | some d => rw [z] at e2; cases e2; exact n _ _ _ z
theorem kp_expr : Kp i (sExpr f) := fun δ δ1 q => by
  unfold sExpr at q
  cases z : f δ with
  | none => rw [z] at q; cases q
  | some d => rw [z] at q; cases q; rfl
theorem kp_app (n : j ≠ i) : Kp i (sApp j f) := fun δ δ1 q => by
  obtain ⟨l, e1, e2⟩ := bind_some q
  cases l with
  | lst ds =>
    obtain ⟨d, e3, e4⟩ := bind_some e2
    obtain ⟨_, e5⟩ := ite_some e4
    cases e5
    exact List.getElem?_set_ne n
  | _ => cases e2
theorem kp_ext (n : j ≠ i) : Kp i (sExt j f) := fun δ δ1 q => by
  obtain ⟨l, e1, e2⟩ := bind_some q
  cases l with
  | lst ds =>
    obtain ⟨d, e3, e4⟩ := bind_some e2
    cases d with
    | lst es =>
      obtain ⟨_, e5⟩ := ite_some e4
      cases e5
      exact List.getElem?_set_ne n
    | _ => cases e4
  | _ => cases e2
theorem kp_put (n : j ≠ i) : Kp i (sPut j f g) := fun δ δ1 q => by
  obtain ⟨d, e1, e2⟩ := bind_some q
  obtain ⟨kd, e3, e4⟩ := bind_some e2
  obtain ⟨l, e5, e6⟩ := bind_some e4
  obtain ⟨l', e7, e8⟩ := map_some e6
  cases e8
  exact List.getElem?_set_ne n
theorem kp_seq (a : Kp i s) (b : Kp i s') : Kp i (sSeq s s') := fun δ δ1 q => by
  obtain ⟨o, e1, e2⟩ := bind_some q
  cases o with
  | nx δ2 => exact (b _ _ e2).trans (a _ _ e1)
  | rt d => cases e2
  | ex c fs => cases e2
theorem kp_if (a : Kp i s) (b : Kp i s') : Kp i (sIf p s s') := fun δ δ1 q => by
  obtain ⟨o, e1, e2⟩ := bind_some q
  cases o with
  | true => rw [if_pos rfl] at e2; exact a _ _ e2
  | false => rw [if_neg Bool.false_ne_true] at e2; exact b _ _ e2
theorem wipeE_other {δ : Env} {i : Nat} : ∀ {vs : List Nat}, i ∉ vs → (wipeE δ vs)[i]? = δ[i]?
  | [], _ => rfl
  | v :: vs, h => by
    unfold wipeE
    rw [List.getElem?_set_ne (fun e => h (by rw [e]; exact List.mem_cons_self))]
    exact wipeE_other fun z => h (List.mem_cons_of_mem _ z)
theorem kp_wip {vs : List Nat} (n : i ∉ vs) (a : Kp i s) : Kp i (sWip vs s) := fun δ δ1 q => (a _ _ q).trans (wipeE_other n)
theorem kp_forD (a : KpG i h) (b : Kp i s) : ∀ {ds : List D} {δ δ1 : Env}, forD h s ds δ = some (.nx δ1) → δ1[i]? = δ[i]?
  | [], _, _, q => by cases q; rfl
  | d :: ds, δ, δ1, q => by
    obtain ⟨δ2, e1, e2⟩ := bind_some q
    obtain ⟨o, e3, e4⟩ := bind_some e2
    cases o with
    | nx δ3 => exact (kp_forD a b (ds := ds) e4).trans ((b _ _ e3).trans (a _ _ _ e1))
    | rt d => cases e4
    | ex c fs => cases e4
theorem kp_for (a : KpG i h) (b : Kp i s) : Kp i (sFor it h s) := fun δ δ1 q => by
  obtain ⟨ds, e1, e2⟩ := bind_some q
  exact kp_forD a b e2
theorem kp_whileD (b : Kp i s) : ∀ {n : Nat} {δ δ1 : Env}, whileD p s n δ = some (.nx δ1) → δ1[i]? = δ[i]?
  | 0, _, _, q => by cases q
  | n + 1, δ, δ1, q => by
    obtain ⟨c, e1, e2⟩ := bind_some q
    cases c with
    | true =>
      rw [if_pos rfl] at e2
      obtain ⟨o, e3, e4⟩ := bind_some e2
      cases o with
      | nx δ3 => exact (kp_whileD b (n := n) e4).trans (b _ _ e3)
      | rt d => cases e4
      | ex c fs => cases e4
    | false => rw [if_neg Bool.false_ne_true] at e2; cases e2; rfl
theorem kp_while (b : Kp i s) : Kp i (sWhile p s) := fun δ δ1 q => kp_whileD b q
end
section
variable {X : Cx} {Γ : CM} {E : WX} {rm : Mode} {M M1 : List Mode} {tg : Expr} {g : TG} {h : Hv} {ws wt : List Nat} {body : List Stmt} {tb : TS} {s : Sv} {K : PySem.W.Frag} {pos : Pos}
theorem snd_forO {i : Nat} (hM : md M i = .ow) (hg : SndG K Γ M g h M1 ws) (hb : SndS K Γ E rm M1 tb s M wt) (hi : i ∉ ws ++ wt) (kg : KpG i h) (kb : Kp i s) : SndS K Γ E rm M (tFor (iAny K (tVar i)) g tb) (sFor (iAnyF (vVar i)) h s) M (ws ++ wt) := fun S0 H0 S H σ0 δ Dn o w ef k => by
  obtain ⟨ds, e1, e2⟩ := bind_some ef
  obtain ⟨d, e0, e3⟩ := bind_some e1
  have hl := vVar_some e0
  obtain ⟨p, hp, hS, top⟩ := w.owned hM hl
  have ed : d = .lst ds := by
    cases d with
    | lst es => cases e3; rfl
    | _ => first | exact top.elim | cases e3
  subst ed
  obtain ⟨vs, hH, hz, rl⟩ := top
  refine .inl ⟨_, hp, p, rfl, ⟨vs, SqL.of hH⟩, ?_⟩
  refine ⟨fun j m σ H => m = ds.length - j ∧ j ≤ ds.length ∧ ∃ S2 δ2, Wd K Γ S0 H0 S2 H σ M δ2 ∧ Same S S2 ∧ forD h s (ds.drop j) δ2 = some o ∧ Fr (ws ++ wt) σ0 σ ∧ δ2[i]? = some (some (.lst ds)), ⟨_, rfl, Nat.zero_le _, S, δ, w, Same.refl _, e2, Fr.refl, hl⟩, ?_⟩
  rintro j m σ2 H2 ⟨rfl, hi', S2, δ2, w2, s2, e3, f2, d2⟩
  obtain ⟨p2, hp2, hS2, vs2, hH2, hz2, rl2⟩ := w2.owned hM d2
  have ep : p2 = p := by
    have := f2.2 i hi
    rw [hp2, hp] at this
    exact V.ref.inj (Option.some.inj (Option.some.inj this))
  subst ep
  have at_ : ItAt K Γ (Itl K p2) ds S2 H2 := itl_at (SqL.of hH2) rl2 w2.sH
  by_cases hlt : j < ds.length
  · refine .inr ⟨(at_.go j ds[j] (List.getElem?_eq_getElem hlt)).1, fun σ' H' => ∃ S3 δ3, Wd K Γ S0 H0 S3 H' σ' M δ3 ∧ Same S S3 ∧ forD h s (ds.drop (j + 1)) δ3 = some o ∧ Fr (ws ++ wt) σ0 σ' ∧ δ3[i]? = some (some (.lst ds)), fun σ' H' ⟨S3, δ3, w3, s3, e4, f4, d4⟩ => ⟨ds.length - (j + 1), by omega, rfl, hlt, S3, δ3, w3, s3, e4, f4, d4⟩, fun x H3 y => ?_⟩
    obtain ⟨S3, x3, r3⟩ := (at_.go j ds[j] (List.getElem?_eq_getElem hlt)).2 x H3 y
    rw [List.drop_eq_getElem_cons hlt] at e3
    obtain ⟨δ4, e4, e5⟩ := bind_some e3
    obtain ⟨o5, e6, e7⟩ := bind_some e5
    refine hg S0 H0 S3 H3 σ2 δ2 x ds[j] _ δ4 (w2.mono x3) r3 e4 fun σ4 w4 u4 => ?_
    have f4 : Fr (ws ++ wt) σ0 σ4 := f2.same ((fr_wipe u4).up fun j => List.mem_append_left _)
    refine hb S0 H0 S3 H3 σ4 δ4 _ o5 w4 e6 ?_
    cases o5 with
    | nx δ5 => exact fun S5 H5 σ5 s5 w5 f5 => ⟨S5, δ5, w5, (s2.trans x3.ss).trans s5, e7, f4.same (f5.up fun j => List.mem_append_right _), ((kb _ _ e6).trans (kg _ _ _ e4)).trans d2⟩
    | rt d => cases e7; exact k
    | ex c fs => cases e7; exact fun cls dd S' H' σ' s5 w5 f5 => k cls dd S' H' σ' ((s2.trans x3.ss).trans s5) w5 (f4.same (f5.up fun j => List.mem_append_right _))
  · have e : j = ds.length := by omega
    subst e
    rw [List.drop_length] at e3
    cases e3
    exact .inl ⟨at_.stop, k S2 H2 σ2 s2 w2 f2⟩
theorem ds_forO (K : PySem.W.Frag) {i : Nat} {x : Str} {p : Pos} (hp : PassesOwn (model X.prog X.w) X.A X.env X.xe) (hc : X.calm = true) (hM : md M i = .ow) (hg : DG Γ X M tg g h M1 ws) (hb : DSs Γ X E rm M1 body tb s M wt) (kg : KpG i h) (kb : Kp i s) (hi : i ∉ ws ++ wt := by decide) (hN : X.N[i]? = some x := by rfl) (hv : Vis X.env.scope x := by first | exact Or.inl rfl | exact Or.inr (Or.inl rfl) | exact Or.inr (Or.inr rfl)) (hd : (x == ("__debug__" : Str)) = false := by decide)
    (hcd : (x == ("__classdict__" : Str)) = false := by decide) (hs : ∀ y, foldedSetIterable (.Name x p) X.env y = pure y := by intro _; rfl) (hK : X.K = K := by rfl) : DS Γ X E rm M (.For tg (.Name x p) body [] pos) (tFor (iAny K (tVar i)) g tb) (sFor (iAnyF (vVar i)) h s) M (ws ++ wt) := by
  subst hK
  exact ⟨ps_for hp hc (pi_or (pi_list (pe_var hN hv hd hcd)) (pi_or (pi_tup (pe_var hN hv hd hcd)) (pi_str (pe_var hN hv hd hcd)))) hg.pg hb.pss hs, snd_forO hM hg.snd hb.snd hi kg kb⟩
end
/-! ### self.f = e -/
def putFD (f : Str) (d : D) : List (Str × D) → List (Str × D)
  | [] => [(f, d)]
  | (g, x) :: r => if g = f then (g, d) :: r else (g, x) :: putFD f d r
theorem RepF.put {K : PySem.W.Frag} {Γ : CM} {S : Hp} {f : Str} {d : D} {v : V} (r : Rep K Γ S d v) : ∀ {fs : List (Str × D)} {ws : List (Str × V)}, RepF K Γ S fs ws → RepF K Γ S (putFD f d fs) (putF f v ws)
  | [], ws, h => by
    cases (show ws = [] from h)
    exact ⟨v, [], rfl, r, rfl⟩
  | (g, x) :: fs, _, ⟨y, ws, e, q, t⟩ => by
    subst e
    unfold putFD putF
    by_cases c : g = f
    · rw [if_pos c, if_pos c]; exact ⟨v, ws, rfl, r, t⟩
    · rw [if_neg c, if_neg c]; exact ⟨y, _, rfl, q, RepF.put r t⟩
theorem RepF.len {K : PySem.W.Frag} {Γ : CM} {S : Hp} : ∀ {fs : List (Str × D)} {ws : List (Str × V)}, RepF K Γ S fs ws → ws.length = fs.length
  | [], ws, h => by cases (show ws = [] from h); rfl
  | _ :: fs, _, ⟨y, ws, e, q, t⟩ => by subst e; rw [List.length_cons, List.length_cons, RepF.len t]
def sFldS (i : Nat) (f : Str) (fe : Ev) : Sv := fun δ => (fe δ).bind fun d => (vVar i δ).bind fun o => match o with
  | .slf a c fs => if fs.length < 1000 then some (.nx (δ.set i (some (.slf a c (putFD f d fs))))) else none
  | _ => none
section
variable {X : Cx} {Γ : CM} {E : WX} {rm m : Mode} {M : List Mode} {e : Expr} {te : TE} {g : Ev} {pos pos' : Pos} {K : PySem.W.Frag}
theorem ds_fldS (K : PySem.W.Frag) {i : Nat} {x f : Str} {p : Pos} (T : ∀ c, ClsOk K Γ c f) (hM : md M i = .ow) (he : DE Γ X M e te g m) (hm : okS m = true := by rfl) (hN : X.N[i]? = some x := by rfl) (hv : Vis X.env.scope x := by first | exact Or.inl rfl | exact Or.inr (Or.inl rfl) | exact Or.inr (Or.inr rfl)) (hd : (x == ("__debug__" : Str)) = false := by decide)
    (hcd : (x == ("__classdict__" : Str)) = false := by decide) (hs : swapsWith e (some (.Attribute (.Name x p) f pos')) pos.line X.env = pure false := by rfl) (hK : X.K = K := by rfl) :
    DS Γ X E rm M (.Assign [.Attribute (.Name x p) f pos'] e pos) (sFld K (tVar i) te f) (sFldS i f g) M [] := by
  subst hK
  refine ⟨ps_fld (pe_var hN hv hd hcd) he.pe hs, fun S0 H0 S H σ δ Dn o w ef k => ?_⟩
  obtain ⟨d, e1, e2⟩ := bind_some ef
  obtain ⟨l, e3, e4⟩ := bind_some e2
  have hl := vVar_some e3
  cases l with
  | slf a c fs =>
    obtain ⟨hlen, rfl⟩ := ite_some e4
    obtain ⟨p', hp, hS, C, dx, vs, hH, hg, rl, rfl⟩ := w.owned hM hl
    refine (he.snd.sh hm) S0 H0 S H σ δ _ d w e1 fun v S1 H1 x1 r1 _ => ?_
    refine ⟨_, hp, p', C, dx, vs, rfl, x1.hh _ _ hH, ((T c).ok C hg).1, ((T c).ok C hg).2, by rw [rl.len]; exact hlen, ?_⟩
    exact k S1 _ σ x1.ss ((w.mono x1).write hM hl hp ⟨C, dx, _, upd_same, hg, RepF.put r1 (rl.mono x1.ss), rfl⟩) Fr.refl
  | _ => cases e4
end
/-! ### __init__ -/
def isSlf : D → Bool
  | .slf _ _ _ => true
  | _ => false
def denI (c : Str) (n np : Nat) (s : Sv) (a : Addr) : List D → Option D := fun ds => if ds.length + 1 = np ∧ ds.all (fun d => !isSlf d) = true then (s (some (.slf a c []) :: (ds.map some ++ List.replicate (n - np) none))).bind fun o => match o with
  | .nx δ => match (δ[0]? : Option (Option D)) with
    | some (some (D.slf a' c' fs)) => if a' = a ∧ c' = c then some (.ins c fs) else none
    | _ => none
  | _ => none
  else none
/-- an __init__'s promise -/
def spI (K : PySem.W.Frag) (Γ : CM) (c : Str) (pm : List Mode) (den : Addr → List D → Option D) : Sp := fun vs H Q _ =>
  ∃ S a C dx ds vs' fs, vs = .ref a :: vs' ∧ iM Γ c = some C ∧ H a = some (.ins C dx []) ∧ S a = none ∧ Same S H ∧ ArgMs K Γ S H pm ds vs' ∧ den a ds = some (.ins c fs) ∧
    ∀ S' H', Same S S' → (∀ b o, H b = some o → b ≠ a → H' b = some o) → Same S' H' → (∀ b o, H b = some o → isTupO o = false → S b = none → S' b = none) → TopAt K Γ S' H' a (.slf a c fs) → Q .non H'
theorem ArgM.less {K : PySem.W.Frag} {Γ : CM} {S H H' : Hp} {m : Mode} {d : D} {v : V} {a : Addr} {C dx : Addr} {fs : List (Str × V)} (ha : H a = some (.ins C dx fs)) (h : ∀ b o, H b = some o → b ≠ a → H' b = some o) (hd : isSlf d = false) (r : ArgM K Γ S H m d v) : ArgM K Γ S H' m d v := by
  have key : (Rep K Γ S d v ∨ ∃ b, v = .ref b ∧ TopAt K Γ S H b d) → (Rep K Γ S d v ∨ ∃ b, v = .ref b ∧ TopAt K Γ S H' b d) := fun z => by
    rcases z with z | ⟨b, ev, t⟩
    · exact .inl z
    · refine .inr ⟨b, ev, ?_⟩
      cases d with
      | lst ds => obtain ⟨vs, e, n, r⟩ := t; exact ⟨vs, h _ _ e (fun z => by rw [z, ha] at e; cases e), n, r⟩
      | dicK ds => obtain ⟨vs, e, r⟩ := t; exact ⟨vs, h _ _ e (fun z => by rw [z, ha] at e; cases e), r⟩
      | dicT ds => obtain ⟨vs, e, r⟩ := t; exact ⟨vs, h _ _ e (fun z => by rw [z, ha] at e; cases e), r⟩
      | slf _ _ _ => cases hd
      | _ => exact t.elim
  cases m with
  | sh => exact r
  | _ => exact key r
theorem ArgMs.less {K : PySem.W.Frag} {Γ : CM} {S H H' : Hp} {a : Addr} {C dx : Addr} {fs : List (Str × V)} (ha : H a = some (.ins C dx fs)) (h : ∀ b o, H b = some o → b ≠ a → H' b = some o) : ∀ {ms : List Mode} {ds : List D} {vs : List V}, ds.all (fun d => !isSlf d) = true → ArgMs K Γ S H ms ds vs → ArgMs K Γ S H' ms ds vs
  | [], _, _, _, r => r
  | m :: ms, _, _, hd, ⟨d, ds', v, vs', e1, e2, r, t⟩ => by
    subst e1 e2
    rw [List.all_cons, Bool.and_eq_true] at hd
    exact ⟨d, ds', v, vs', rfl, rfl, r.less ha h (by simpa using hd.1), ArgMs.less ha h hd.2 t⟩
theorem initM_ok {n : Nat} {pm : List Mode} (hp : pm.all (fun m => m == .sh || m == .bo) = true) (i : Nat) : md (initM n pm) i = .sh ∨ md (initM n pm) i = .bo := by
  unfold md initM
  rw [List.getD_eq_getElem?_getD]
  by_cases hi : i < pm.length
  · rw [List.getElem?_append_left hi, List.getElem?_eq_getElem hi]
    have := List.all_eq_true.mp hp _ (List.getElem_mem hi)
    simpa using this
  · rw [List.getElem?_append_right (by omega)]
    cases q : (List.replicate (n - pm.length) Mode.sh)[i - pm.length]? with
    | none => exact .inl rfl
    | some m =>
      have := List.mem_of_getElem? q
      rw [List.mem_replicate] at this
      exact .inl this.2
theorem Wd.beginI {K : PySem.W.Frag} {Γ : CM} {S H : Hp} {N : List Str} {pm : List Mode} {c : Str} {a C dx : Addr} {ds : List D} {vs : List V} (sh : Same S H) (hg : iM Γ c = some C) (ha : H a = some (.ins C dx [])) (hS : S a = none) (r : ArgMs K Γ S H pm ds vs) (hp : pm.all (fun m => m == .sh || m == .bo) = true) (hd : ds.all (fun d => !isSlf d) = true) :
    Wd K Γ S (fun b => if b = a then none else H b) S H (L2.start N (.ref a :: vs)) (.ow :: initM (N.length - 1) pm) (some (.slf a c []) :: (ds.map some ++ List.replicate (N.length - (pm.length + 1)) none)) := by
  have h0 : ∀ b o, (fun b => if b = a then none else H b) b = some o → H b = some o ∧ b ≠ a := fun b o e => by
    by_cases q : b = a
    · simp [q] at e
    · simp only [if_neg q] at e; exact ⟨e, q⟩
  have sh0 : Same S (fun b => if b = a then none else H b) := fun b o e => by
    have q : b ≠ a := fun z => by rw [z, hS] at e; cases e
    simp only [if_neg q]; exact sh b o e
  have r0 : ArgMs K Γ S (fun b => if b = a then none else H b) pm ds vs := r.less ha (fun b o e q => by simp only [if_neg q]; exact e) hd
  have w0 := Wd.begin (N := N.tail) sh0 r0 hp
  obtain ⟨l1, l2⟩ := r.len
  have hN1 : N.tail.length = N.length - 1 := List.length_tail
  have em : initM N.tail.length pm = initM (N.length - 1) pm := by rw [hN1]
  have ee : N.tail.length - pm.length = N.length - (pm.length + 1) := by rw [hN1]; omega
  rw [em] at w0
  rw [ee] at w0
  have es : L2.start N (.ref a :: vs) = some (.ref a) :: L2.start N.tail vs := by
    unfold L2.start
    rw [List.map_cons, List.cons_append, hN1, List.length_cons]
    congr 3
    omega
  rw [es]
  refine ⟨⟨Same.refl _, fun b o e => (h0 b o e).1, sh, fun b o e _ q => q⟩, by rw [List.length_cons, List.length_cons, w0.len], fun i d h => ?_, fun i d b h m s => ?_, fun i j di dj b h1 h2 m1 m2 s1 s2 => ?_, fun i z => ?_⟩
  · cases i with
    | zero =>
      cases h
      exact ⟨.ref a, rfl, a, rfl, hS, C, dx, [], ha, hg, rfl, rfl⟩
    | succ i =>
      obtain ⟨v, hv, rv⟩ := w0.slot i d h
      refine ⟨v, hv, ?_⟩
      have em2 : md (.ow :: initM (N.length - 1) pm) (i + 1) = md (initM (N.length - 1) pm) i := rfl
      rw [em2]
      exact rv.mono ⟨Same.refl _, fun b o e => (h0 b o e).1, sh, fun b o e _ q => q⟩
  · cases i with
    | zero =>
      cases s
      simp
    | succ i => exact w0.own i d b h m s
  · cases i with
    | zero =>
      cases j with
      | zero => rfl
      | succ j =>
        have m2' : md (initM (N.length - 1) pm) j = .ow := m2
        rcases initM_ok (n := N.length - 1) hp j with z | z <;> rw [z] at m2' <;> cases m2'
    | succ i =>
      have m1' : md (initM (N.length - 1) pm) i = .ow := m1
      rcases initM_ok (n := N.length - 1) hp i with z | z <;> rw [z] at m1' <;> cases m1'
  · cases i with
    | zero => cases z
    | succ i => exact w0.nord i z
section
variable {P : Program} {w : World} {K : PySem.W.Frag} {mg : Str → Option Value} {base : Heap} {Γ : CM}
theorem init_ok {c x qual : Str} {st : Stmt} {f : Addr} {fd : FuncData} {N ps : List Str} {k : Nat} {pm : List Mode} {s : Sv} {M' : List Mode} (F : Fun K x qual st f fd) (S : FnScope N ps (defScope st)) (hl : pm.length + 1 = ps.length) (hp : pm.all (fun m => m == .sh || m == .bo) = true) {M0 : List Mode} (hM : .ow :: initM (N.length - 1) pm = M0) {n np : Nat} (hn : N.length = n) (hnp : ps.length = np) (hM' : md M' 0 = .ow)
    (hbody : ∀ (cdv : Value) (A : Around) (outer : List PySem.Env) (s0 : Shared) (H : Hp) (E : XK), Room k (A.deeper (PyProof.Rows.envOfC qual (defScope st) s0.heap.objs.size f cdv)) →
      ∃ t ws, DSs Γ (cxOf CX0 P w K mg base N qual (defScope st) f cdv A outer s0 H E).nox W0 .sh M0 (defBody st) t s M' ws) : FnOk P w K mg base CX0 (k + 1) f fd ps (spI K Γ c pm (denI c n np s)) := by
  subst hM hn hnp
  refine F.ok S (fun vs H Q E h => ?_) (fun cdv A outer s0 H vs Q E hr h => ?_)
  · obtain ⟨S1, a, C, dx, ds, vs', fs, rfl, _, _, _, _, ra, _⟩ := h
    rw [List.length_cons, ra.len.1, hl]
  · obtain ⟨S1, a, C, dx, ds, vs', fs, rfl, hg, ha, hS, sh, ra, ed, kk⟩ := h
    obtain ⟨t, ws, hb⟩ := hbody cdv A outer s0 H E hr
    refine ⟨t, hb.pss, ?_⟩
    unfold denI at ed
    split at ed
    · rename_i hc
      obtain ⟨o, e1, e2⟩ := bind_some ed
      rw [← hl] at e1
      refine hb.snd S1 _ S1 H _ _ _ o (Wd.beginI sh hg ha hS ra hp hc.2) e1 ?_
      cases o with
      | nx δ =>
        intro S2 H2 σ2 s2 w2 _
        have e2 : (match (δ[0]? : Option (Option D)) with | some (some (D.slf a' c' fs')) => if a' = a ∧ c' = c then some (D.ins c fs') else none | _ => none) = some (D.ins c fs) := e2
        split at e2
        · rename_i a' c' fs' hδ
          obtain ⟨⟨ea, ec⟩, e3⟩ := ite_some e2
          cases e3
          subst ea ec
          obtain ⟨b, hb1, hb2, tb⟩ := w2.owned hM' hδ
          have eb : b = a' := by obtain ⟨_, _, _, _, _, _, e⟩ := tb; exact e
          subst eb
          refine kk S2 H2 s2 (fun c o e q => w2.ext.hh c o ?_) w2.ext.sh (fun c o e t n => ?_) tb
          · simp only [if_neg q]; exact e
          · by_cases q : c = b
            · subst q; exact hb2
            · exact w2.ext.fr c o (by simp only [if_neg q]; exact e) t n
        · cases e2
      | rt d => cases e2
      | ex c fs => cases e2
    · cases ed
end
/-! ### C(..) -/
open Classical in
noncomputable def denM (den : Addr → List D → Option D) : List D → Option D := fun ds => if h : ∃ r, ∀ a, den a ds = some r then some h.choose else none
theorem denM_some {den : Addr → List D → Option D} {ds : List D} {r : D} (h : denM den ds = some r) : ∀ a, den a ds = some r := by
  unfold denM at h
  split at h
  · rename_i q
    cases h
    exact q.choose_spec
  · cases h
theorem denM_of {den : Addr → List D → Option D} {ds : List D} {r : D} (h : ∀ a, den a ds = some r) : denM den ds = some r := by
  have q : ∃ r, ∀ a, den a ds = some r := ⟨r, h⟩
  unfold denM
  rw [dif_pos q]
  have := q.choose_spec 0
  rw [h 0] at this
  exact this.symm
theorem denI_ins {c : Str} {n np : Nat} {s : Sv} {a : Addr} {ds : List D} {r : D} (h : denI c n np s a ds = some r) : ∃ fs, r = .ins c fs := by
  unfold denI at h
  split at h
  · obtain ⟨o, _, e⟩ := bind_some h
    cases o with
    | nx δ =>
      dsimp only at e
      split at e
      · obtain ⟨_, e⟩ := ite_some e
        exact ⟨_, e.symm⟩
      · cases e
    | _ => cases e
  · cases h
section
variable {X : Cx} {Γ : CM} {M : List Mode} {e o : Expr} {es : List Expr} {tr : TA} {fr : Env → Option (List D)} {fo : Ev} {to : TE} {m mo : Mode} {pos : Pos}
theorem de_make {c x : Str} {C f : Addr} {fd : FuncData} {ps : List Str} {k : Nat} {p : Pos} {pm : List Mode} {den : Addr → List D → Option D} (K : PySem.W.Frag) (mk : Mk K C f) (hg : iM Γ c = some C) (F : FnOk X.prog X.w K X.mg X.base CX0 k f fd ps (spI K Γ c pm den)) (hr : Room (k + 1) X.A) (hm : X.mg x = some (.ref C)) (hb : Binds K fd ps [])
    (hi : ∀ a ds r, den a ds = some r → ∃ fs, r = .ins c fs) (ha : DAr Γ X M (e :: es) tr fr pm) (hgl : Gl X x := by rfl) (h2 : (x == ("__debug__" : Str)) = false := by decide) (h3 : starEach (e :: es) X.env = (false, eval e X.env) :: starEach es X.env := by rfl) (h4 : (backTo pos (starEach es X.env)).any (·.1) = false := by rfl) (hK : X.K = K := by rfl) :
    DE Γ X M (.Call (.Name x p) (e :: es) [] pos) (tMake C (spI K Γ c pm den) [] E0 tr) (vC1 (denM den) fr) .sh := by
  subst hK
  refine ⟨pe_make mk F hr hgl hm hb .nil pass0 ha.pa h2 h3 h4, fun S0 H0 S H σ δ Q d w ef k => ?_⟩
  obtain ⟨ds, e1, e2⟩ := bind_some ef
  refine ha.snd S0 H0 S H σ δ _ ds w e1 fun vs S1 H1 x1 r1 => ?_
  intro a dx na ndx ne
  obtain ⟨fs, rfl⟩ := hi a ds d (denM_some e2 a)
  have ext1 : Same H1 (upd (upd H1 dx (.own a)) a (.ins C dx [])) := fun b o e => by rw [upd_ne (ne_of_none e na), upd_ne (ne_of_none e ndx)]; exact e
  have S1a : S1 a = none := Same.none x1.sh na
  show spI X.K Γ c pm den (.ref a :: (vs ++ [])) _ _ E0
  rw [List.append_nil]
  refine ⟨S1, a, C, dx, ds, vs, fs, rfl, hg, upd_same, S1a, x1.sh.trans ext1, r1.mono ⟨Same.refl _, ext1, x1.sh.trans ext1, fun b o e t n => n⟩, denM_some e2 a, fun S2 H2 s2 hh sh2 fr2 t => ⟨rfl, ?_⟩⟩
  obtain ⟨S3, s3, s4, r3, off⟩ := t.share sh2 (fr2 a _ upd_same rfl S1a)
  obtain ⟨a', C', dx', ws, ev, hg', hS', rf, _⟩ := r3
  cases ev
  have hhh : Same H1 H2 := fun b o e => hh b o (ext1 b o e) (ne_of_none e na)
  refine k (.ref a) S3 H2 ⟨(x1.ss.trans s2).trans s3, x1.hh.trans hhh, s4, fun b o hb tt nb => ?_⟩ ⟨a, C', dx', ws, rfl, hg', hS', rf⟩ fun z => by cases z
  have nba : b ≠ a := ne_of_none (x1.hh _ _ hb) na
  rw [off b nba]
  exact fr2 b o (ext1 _ _ (x1.hh _ _ hb)) tt (x1.fr b o hb tt nb)
/-! ### o.m(..) -/
def vMeth (c m : Str) (den : List D → Option D) (fo : Ev) (fr : Env → Option (List D)) : Ev := fun δ => (fo δ).bind fun d => match d with
  | .ins c' fs => if c' = c ∧ fs.lookup m = none then (fr δ).bind fun ds => den (.ins c' fs :: ds) else none
  | _ => none
theorem RepF.lookN {K : PySem.W.Frag} {Γ : CM} {S : Hp} {x : Str} : ∀ {fs : List (Str × D)} {ws : List (Str × V)}, RepF K Γ S fs ws → fs.lookup x = none → ws.lookup x = none
  | [], ws, h, _ => by cases (show ws = [] from h); rfl
  | (n, y) :: fs, _, ⟨v, ws, e, r, t⟩, h => by
    subst e
    rw [List.lookup_cons] at h ⊢
    cases q : x == n with
    | true => rw [q] at h; cases h
    | false => rw [q] at h; exact RepF.lookN t h
theorem snd_meth {c mn : Str} {C : Addr} {pm : List Mode} {m1 : Mode} {den : List D → Option D} {tA : TA} {K : PySem.W.Frag} (hg : iM Γ c = some C) (hm : okS m = true) (ho : SndE K Γ M to fo mo) (ha : SndAr K Γ M tA fr pm) (h1 : m1 = .sh ∨ m1 = .bo) :
    SndE K Γ M (tMeth C mn (spD K Γ (m1 :: pm) m den) [] E0 to tA) (vMeth c mn den fo fr) m := fun S0 H0 S H σ δ Q d w ef k => by
  obtain ⟨o, e1, e2⟩ := bind_some ef
  cases o with
  | ins c' fs =>
    have e2 : (if c' = c ∧ fs.lookup mn = none then (fr δ).bind fun ds => den (.ins c' fs :: ds) else none) = some d := e2
    by_cases hc : c' = c ∧ fs.lookup mn = none
    · obtain ⟨ec, hl⟩ := hc
      subst ec
      rw [if_pos ⟨rfl, hl⟩] at e2
      obtain ⟨ds, e3, e4⟩ := bind_some e2
      refine ho S0 H0 S H σ δ _ _ w e1 fun v S1 H1 x1 r1 _ => ?_
      obtain ⟨a, C', dx, ws, ev, hg', hS, rf⟩ := r1.ins (w.mono x1).h0
      have eC : C' = C := Option.some.inj (hg'.symm.trans hg)
      subst eC
      refine ⟨a, dx, ws, ev, x1.sh _ _ hS, rf.lookN hl, ?_⟩
      refine ha S0 H0 S1 H1 σ δ _ ds (w.mono x1) e3 fun vs S2 H2 x2 r2 => ?_
      show spD K Γ (m1 :: pm) m den (v :: (vs ++ [])) H2 Q E0
      rw [List.append_nil]
      have rs : Rep K Γ S2 (.ins c' fs) v := Rep.mono x2.ss ⟨a, C', dx, ws, ev, hg', hS, rf⟩
      refine ⟨S2, .ins c' fs :: ds, d, x2.sh, ⟨_, _, _, _, rfl, rfl, ?_, r2⟩, e4, (k.ext (x1.trans x2)).h0 hm⟩
      rcases h1 with rfl | rfl
      · exact rs
      · exact .inl rs
    · rw [if_neg hc] at e2; cases e2
  | _ => cases e2
theorem de_meth {c mn : Str} {C f : Addr} {fd : FuncData} {ps : List Str} {k : Nat} {apos : Pos} {pm : List Mode} {m1 : Mode} {den : List D → Option D} (K : PySem.W.Frag) (cl : Cls K C) (me : Meth K C mn f) (hg : iM Γ c = some C) (F : FnOk X.prog X.w K X.mg X.base CX0 k f fd ps (spD K Γ (m1 :: pm) m den)) (hr : Room k X.A) (hb : Binds K fd ps [])
    (ho : DE Γ X M o to fo mo) (ha : DAr Γ X M (e :: es) tr fr pm) (h1 : m1 = .sh ∨ m1 = .bo) (hm : okS m = true := by rfl) {pl : Sem Bool} (h3 : starEach (e :: es) X.env = (false, eval e X.env) :: starEach es X.env := by rfl) (h4 : (backTo pos (starEach es X.env)).any (·.1) = false := by rfl)
    (ht : eval (.Call (.Attribute o mn apos) (e :: es) [] pos) X.env = (do
      let ov ← eval o X.env
      standAt apos.atName
      let (f, first) ← holding [ov] (getMethod ov mn pl)
      callWith pos f first (backTo pos (starEach (e :: es) X.env)) (backToKw pos (keywordEach [] X.env))) := by rfl) (hK : X.K = K := by rfl) :
    DE Γ X M (.Call (.Attribute o mn apos) (e :: es) [] pos) (tMeth C mn (spD K Γ (m1 :: pm) m den) [] E0 to tr) (vMeth c mn den fo fr) m := by
  subst hK
  exact ⟨pe_meth ho.pe cl me F hr hb .nil pass0 ha.pa h3 h4 ht, snd_meth hg hm ho.snd ha.snd h1⟩
theorem da_nil0 {K : PySem.W.Frag} : SndAr K Γ M tNil aNil [] := fun S0 H0 S H σ δ Q ds w ef k => by cases ef; exact k [] S H (Ext.refl w.sH) ⟨rfl, rfl⟩
theorem de_meth0 {c mn : Str} {C f : Addr} {fd : FuncData} {ps : List Str} {k : Nat} {apos : Pos} {m1 : Mode} {den : List D → Option D} (K : PySem.W.Frag) (cl : Cls K C) (me : Meth K C mn f) (hg : iM Γ c = some C) (F : FnOk X.prog X.w K X.mg X.base CX0 k f fd ps (spD K Γ [m1] m den)) (hr : Room k X.A) (hb : Binds K fd ps [])
    (ho : DE Γ X M o to fo mo) (h1 : m1 = .sh ∨ m1 = .bo) (hm : okS m = true := by rfl) {pl : Sem Bool}
    (ht : eval (.Call (.Attribute o mn apos) [] [] pos) X.env = (do
      let ov ← eval o X.env
      standAt apos.atName
      let (f, first) ← holding [ov] (getMethod ov mn pl)
      callWith pos f first (backTo pos (starEach [] X.env)) (backToKw pos (keywordEach [] X.env))) := by rfl) (hK : X.K = K := by rfl) :
    DE Γ X M (.Call (.Attribute o mn apos) [] [] pos) (tMeth C mn (spD K Γ [m1] m den) [] E0 to tNil) (vMeth c mn den fo aNil) m := by
  subst hK
  exact ⟨pe_meth0 ho.pe cl me F hr hb .nil pass0 ht, snd_meth hg hm ho.snd da_nil0 h1⟩
end
end Dl
/-! enumerate of a text; enumerate, zip, reversed over data; sorted; len(set(ints)). -/
namespace L2
open PySem PySem.Spec PyProof.Rows
/-- enumerate of a text: each sign in a new pair -/
def ItEs (x : Str) : It :=
  ⟨fun i _ => i < x.cps.size, fun i H v H' => ∃ T c, v = .ref T ∧ H T = none ∧ H' = upd H T (.tup [.int (i : Nat), .str ⟨#[c]⟩]) ∧ x.cps[i]? = some c, fun i _ => i = x.cps.size⟩
theorem draws_str {P : Program} {w : World} {A : Around} (hh : A.handled = none) (it : Addr) (x : Str) (t : Tok) :
    Draws P w A it [it] x.cps.size (fun i v => ∃ c u, x.cps[i]? = some c ∧ v = .str ⟨#[c]⟩ u) (fun i h => h.IsStrIter it (strIterType x) x t i) := by
  unfold strIterType
  split
  · exact Draws.strAscii hh it x t
  · exact Draws.strWide hh it x t
theorem turn_enumS {P : Program} {w : World} {K : PySem.W.Frag} {elts : List Expr} {kk : Nat} {tpos : Pos} (x : Str) (t : Tok) (e it : Addr) :
    Turn P w K (.Tuple elts kk tpos) (ItEs x) [e, it] e (fun i h => (∃ old, IsEnum h e it ((i : Nat) : Int) old) ∧ h.IsStrIter it (strIterType x) x t i ∧ e ≠ it) where
  mem := by simp
  obj := fun i h st b hb => by
    obtain ⟨⟨old, he⟩, ⟨o, ho, hc, hd⟩, _⟩ := st
    have e' : b = e ∨ b = it := by simpa using hb
    rcases e' with z | z
    · rw [z]; exact ⟨_, he, fun v q => nomatch q⟩
    · rw [z]; exact ⟨o, ho, fun v q => by rw [hd] at q; cases q⟩
  keep := fun i h h' st k => let ⟨⟨old, he⟩, ⟨o, ho, r⟩, hne⟩ := st; ⟨⟨old, k e (by simp) _ he⟩, ⟨o, k it (by simp) o ho, r⟩, hne⟩
  item := by
    intro X hP hw hK hc i pins s σ H E I hf st hg
    subst hP hw hK
    obtain ⟨⟨old, he⟩, hit, hne⟩ := st
    have hel : e < s.heap.objs.size := Heap.lt_size he
    have hil : it < s.heap.objs.size := by obtain ⟨_, q, _⟩ := hit; exact Heap.lt_size q
    refine wpAny_pyNext_enum_itemD (draws_str (A := X.A.in1) (I.ok.hd hc) it x t) he hit hg hne (by simpa using hne) fun u h' tk hP ho hit' hT hsz hk => ?_
    obtain ⟨c, u', hcx, rfl⟩ := hP
    refine ⟨_, rfl, wpAny_letOwnedTupleGo_enum (s := { s with heap := h', toks := tk + 1 }) ho fun h'' he' sb => ?_⟩
    have hT2 : h''.get? s.heap.objs.size = some { cls := .type "tuple", data := .seq #[.int i tk, .str ⟨#[c]⟩ u'] } := (sb.2 _ (Nat.ne_of_gt hel)).trans hT
    have new : ObjOk X.prog X.w (upd H s.heap.objs.size (.tup [.int (i : Nat), .str ⟨#[c]⟩])) h'' s.heap.objs.size (.tup [.int (i : Nat), .str ⟨#[c]⟩]) :=
      ⟨by show 2 ≤ sizeLine; decide, [.int i tk, .str ⟨#[c]⟩ u'], .cons ⟨_, rfl⟩ (.cons ⟨_, rfl⟩ .nil), ⟨_, hT2, rfl, _, rfl⟩⟩
    have I1 : Inv X pins σ (upd H s.heap.objs.size (.tup [.int (i : Nat), .str ⟨#[c]⟩])) { s with heap := h'', toks := tk + 1 } :=
      I.turnedNew (ch := [e, it]) (fun b ob hb q => (sb.2 b (fun z => hb (by simp [z]))).trans (hk b ob (fun z => hb (by simp [z])) (fun z => hb (by simp [z])) q)) hf (Nat.le_refl _) new
    refine ⟨.ref s.heap.objs.size, _, I1, rfl, ⟨_, c, rfl, I.hok.fresh (Nat.le_refl _), rfl, hcx⟩, ⟨⟨.str ⟨#[c]⟩ u', ?_⟩, ?_, hne⟩, fun b hb => ?_⟩
    · have e1 : ((i + 1 : Nat) : Int) = (i : Int) + 1 := by omega
      rw [e1]; exact he'
    · obtain ⟨o, ho', r⟩ := hit'
      exact ⟨o, (sb.2 it (Ne.symm hne)).trans ho', r⟩
    · have hb' : b < s.heap.objs.size := by
        have e' : b = e ∨ b = it := by simpa using hb
        rcases e' with z | z
        · rw [z]; exact hel
        · rw [z]; exact hil
      rw [upd_ne (Nat.ne_of_lt hb')]
      exact (hf b hb).1
  done := by
    intro X hP hw hK hc i pins s σ H E I hf st hg
    subst hP hw hK
    obtain ⟨⟨old, he⟩, hit, hne⟩ := st
    obtain ⟨f0, f1, f2, f3, f4, f5⟩ := hf it (by simp)
    have hg : i = x.cps.size := hg
    subst hg
    exact wpAny_pyNext_enum_endD (draws_str (A := X.A.in1) (I.ok.hd hc) it x t) he hit fun h' eb => ⟨rfl, I.turned (t' := s.toks) (fun b o hb q => eb b o hb q) f0 f1 f3 f4 f5⟩
  self := fun A i s Q E st h => let ⟨⟨_, he⟩, _⟩ := st; wpAny_pyIter_enum he h
def iEnumS (ta : TA) : TI := fun σ H R => ta σ H fun vs H1 => ∃ x, vs = [.str x] ∧ R (ItEs x) H1
theorem pi_enumS {X : Cx} {e : Expr} {ta : TA} {p pos tpos : Pos} {elts : List Expr} {kk : Nat} (hg : Gl X "enumerate") (hm : X.mg "enumerate" = none) (ha : PA X [e] ta) (hs : starEach [e] X.env = [(false, eval e X.env)] := by rfl) :
    PI X (.Tuple elts kk tpos) (.Call (.Name "enumerate" p) [e] [] pos) (iEnumS ta) := by
  refine ⟨fun pins s σ H R I h => ?_⟩
  refine Call_ (ld_blt I hg hm boot_enumerate (PyProof.Rows.callWith_type1 (thn (ha.run pos pins s σ H _ I h) fun us s1 ⟨vs, H1, I1, r1, q1⟩ => ?_) hs rfl))
  obtain ⟨x, ex, q⟩ := q1
  subst ex
  cases r1 with
  | cons r rr =>
    cases rr
    obtain ⟨t, rfl⟩ := r
    refine call_enumerate_str fun h' he hit hsz hk => wpAny_pyIter_enum he ?_
    have I2 : Inv X pins σ H1 { s1 with heap := h' } := I1.kept (t' := s1.toks) hk
    refine ⟨s1.heap.objs.size + 1, [s1.heap.objs.size + 1, s1.heap.objs.size], _, _, H1, rfl, I2, turn_enumS x t (s1.heap.objs.size + 1) s1.heap.objs.size, ⟨⟨.none, he⟩, hit, Nat.succ_ne_self _⟩, fun b hb => ?_, q⟩
    have e' : b = s1.heap.objs.size + 1 ∨ b = s1.heap.objs.size := by simpa using hb
    have hle : s1.heap.objs.size ≤ b := by
      rcases e' with z | z
      · rw [z]; exact Nat.le_add_right _ _
      · rw [z]; exact Nat.le_refl _
    exact I1.fpOk hle (I1.hok.fresh hle)
end L2
namespace Dl
open PySem L2
section
variable {X : Cx} {Γ : CM} {M : List Mode} {tg e a b : Expr} {es : List Expr} {ta : TA} {f : Ev} {fr : Env → Option (List D)} {pos : Pos} {K : PySem.W.Frag} {te : TE} {m : Mode}
def enumD (ds : List D) : List D := ds.mapIdx fun i d => .tup [.int (i : Int), d]
def enumSrc : D → Option (List D)
  | .lst ds => some ds
  | .str x => some (signs x)
  | _ => none
def iEnumerateF (fr : Env → Option (List D)) : Env → Option (List D) := fun δ => (fr δ).bind fun ds => match ds with | [d] => (enumSrc d).map enumD | _ => none
theorem enumD_len (ds : List D) : (enumD ds).length = ds.length := by unfold enumD; rw [List.length_mapIdx]
theorem enumD_get {ds : List D} {i : Nat} {d : D} (h : (enumD ds)[i]? = some d) : ∃ x, ds[i]? = some x ∧ d = .tup [.int (i : Int), x] := by
  unfold enumD at h
  rw [List.getElem?_mapIdx] at h
  cases q : ds[i]? with
  | none => rw [q] at h; cases h
  | some x => rw [q] at h; exact ⟨x, rfl, (Option.some.inj h).symm⟩
theorem two_le : 2 ≤ sizeLine := by decide
theorem rep_pair {S H : Hp} {p : Addr} {d1 d2 : D} {v1 v2 : V} (sh : Same S H) (hp : H p = none) (r1 : Rep K Γ S d1 v1) (r2 : Rep K Γ S d2 v2) : ∃ S2, Ext S H S2 (upd H p (.tup [v1, v2])) ∧ Rep K Γ S2 (.tup [d1, d2]) (.ref p) := by
  have x := Ext.shared sh hp (.tup [v1, v2])
  exact ⟨_, x, p, [v1, v2], rfl, upd_same, two_le, v1, [v2], rfl, Rep.mono x.ss r1, RepL.one (Rep.mono x.ss r2)⟩
theorem di_enumerate (K : PySem.W.Frag) {p tpos : Pos} {elts : List Expr} {kk : Nat} (hn : X.mg "enumerate" = none) (ha : DAr Γ X M [a] ta fr [.sh]) (hg : Gl X "enumerate" := by rfl) (hs : starEach [a] X.env = [(false, eval a X.env)] := by rfl) (hK : X.K = K := by rfl) :
    DI Γ X M (.Tuple elts kk tpos) (.Call (.Name "enumerate" p) [a] [] pos) (fun σ H R => iEnum K ta σ H R ∨ iEnumS ta σ H R) (iEnumerateF fr) := by
  subst hK
  exact ⟨pi_or (pi_enum hg hn ha.pa hs) (pi_enumS hg hn ha.pa hs), fun S0 H0 S H σ δ R ds w ef k => by
  obtain ⟨as, e1, e2⟩ := bind_some ef
  match as, e2, e1 with
  | [d], e2, e1 =>
    have e2 : (enumSrc d).map enumD = some ds := e2
    cases d with
    | lst es =>
      cases e2
      refine .inl (ha.snd S0 H0 S H σ δ _ _ w e1 fun vs S1 H1 x1 r1 => ?_)
      obtain ⟨v, vs', ev, r1, r2⟩ := ArgMs.all_sh (ms := [.sh]) rfl r1
      cases (show vs' = [] from r2)
      obtain ⟨q, us, ev2, hq, hl, rl⟩ := r1
      refine ⟨q, us, by rw [ev, ev2], SqL.of (x1.sh _ _ hq), k _ S1 H1 x1 ⟨by rw [enumD_len]; exact hl, fun S2 H2 x2 s2 => ?_⟩⟩
      have hq2 : SqL X.K H2 q us := SqL.of (x2.sh _ _ (s2 _ _ hq))
      have rl2 := rl.mono s2
      refine ⟨fun i d hd => ?_, ⟨us, hq2, by rw [enumD_len, rl.length]; exact Nat.le_refl _⟩⟩
      obtain ⟨x, hx, rfl⟩ := enumD_get hd
      obtain ⟨u, hu, ru⟩ := rl2.get hx
      refine ⟨⟨us, u, hq2, hu⟩, fun y H3 hy => ?_⟩
      obtain ⟨T, z, rfl, hT, rfl, hz⟩ := hy
      have ez : z = u := Option.some.inj ((hz us hq2).symm.trans hu)
      subst ez
      exact rep_pair x2.sh hT rfl ru
    | str x =>
      cases e2
      refine .inr (ha.snd S0 H0 S H σ δ _ _ w e1 fun vs S1 H1 x1 r1 => ?_)
      obtain ⟨v, vs', ev, r1, r2⟩ := ArgMs.all_sh (ms := [.sh]) rfl r1
      cases (show vs' = [] from r2)
      have ln : (signs x).length = x.cps.size := by unfold signs; rw [List.length_map]; simp
      refine ⟨x, by rw [ev, r1.1], k _ S1 H1 x1 ⟨by rw [enumD_len, ln]; exact r1.2, fun S2 H2 x2 s2 => ⟨fun i d hd => ?_, by rw [enumD_len, ln]; rfl⟩⟩⟩
      obtain ⟨y, hy, rfl⟩ := enumD_get hd
      have hi : i < x.cps.size := by rw [← ln]; exact (List.getElem?_eq_some_iff.mp hy).1
      refine ⟨hi, fun z H3 hz => ?_⟩
      obtain ⟨T, c, rfl, hT, rfl, hc⟩ := hz
      have ey : y = .str ⟨#[c]⟩ := by
        unfold signs at hy
        rw [List.getElem?_map] at hy
        have : x.cps.toList[i]? = some c := by simpa using hc
        rw [this] at hy
        exact (Option.some.inj hy).symm
      subst ey
      exact rep_pair x2.sh hT rfl ⟨rfl, one_le⟩
    | _ => cases e2⟩
/-! reversed(list) -/
def iReversedF (fr : Env → Option (List D)) : Env → Option (List D) := fun δ => (fr δ).bind fun ds => match ds with | [.lst xs] => some xs.reverse | _ => none
/-! zip(list, list) -/
def iZipF (fr : Env → Option (List D)) : Env → Option (List D) := fun δ => (fr δ).bind fun ds => match ds with | [.lst xs, .lst ys] => some ((xs.zip ys).map fun p => .tup [p.1, p.2]) | _ => none
theorem di_zip (K : PySem.W.Frag) {p tpos : Pos} {elts : List Expr} {kk : Nat} (hn : X.mg "zip" = none) (ha : DAr Γ X M [a, b] ta fr [.sh, .sh]) (hg : Gl X "zip" := by rfl) (hs : starEach [a, b] X.env = (false, eval a X.env) :: starEach [b] X.env := by rfl) (hpl : (backTo pos (starEach [b] X.env)).any (·.1) = false := by rfl) (hK : X.K = K := by rfl) :
    DI Γ X M (.Tuple elts kk tpos) (.Call (.Name "zip" p) [a, b] [] pos) (RZ.iZipA K ta) (iZipF fr) := by
  subst hK
  exact ⟨RZ.pi_zipA hg hn ha.pa hs hpl, fun S0 H0 S H σ δ R ds w ef k => by
  obtain ⟨as, e1, e2⟩ := bind_some ef
  match as, e2, e1 with
  | [.lst xs, .lst ys], e2, e1 =>
    cases e2
    refine ha.snd S0 H0 S H σ δ _ _ w e1 fun vs S1 H1 x1 r1 => ?_
    obtain ⟨v, vs', ev, r1, r2⟩ := ArgMs.all_sh (ms := [.sh, .sh]) rfl r1
    obtain ⟨v2, vs2, ev2, r2, r3⟩ := r2
    cases (show vs2 = [] from r3)
    obtain ⟨q1, us, eu, hq1, hl1, rl1⟩ := r1
    obtain ⟨q2, ws, ew, hq2, hl2, rl2⟩ := r2
    have ln : ((xs.zip ys).map fun p => D.tup [p.1, p.2]).length = min xs.length ys.length := by rw [List.length_map, List.length_zip]
    refine ⟨q1, q2, us, ws, by rw [ev, ev2, eu, ew], .inl ⟨SqL.of (x1.sh _ _ hq1), SqL.of (x1.sh _ _ hq2), k _ S1 H1 x1 ⟨by rw [ln]; omega, fun S2 H2 x2 s2 => ?_⟩⟩⟩
    have h1 : SqL X.K H2 q1 us := SqL.of (x2.sh _ _ (s2 _ _ hq1))
    have h2 : SqL X.K H2 q2 ws := SqL.of (x2.sh _ _ (s2 _ _ hq2))
    have m1 := rl1.mono s2
    have m2 := rl2.mono s2
    refine ⟨fun i d hd => ?_, ⟨us, ws, h1, h2, by rw [ln, rl1.length, rl2.length]; omega⟩⟩
    rw [List.getElem?_map] at hd
    cases qz : (xs.zip ys)[i]? with
    | none => rw [qz] at hd; cases hd
    | some pr =>
      rw [qz] at hd
      cases hd
      obtain ⟨hx, hy⟩ := List.getElem?_zip_eq_some.mp qz
      obtain ⟨u, hu, ru⟩ := m1.get hx
      obtain ⟨z, hz, rz⟩ := m2.get hy
      refine ⟨⟨us, ws, u, z, h1, h2, hu, hz⟩, fun y H3 hy3 => ?_⟩
      obtain ⟨T, g1, g2, rfl, hT, rfl, hg1, hg2⟩ := hy3
      have e1 : g1 = u := Option.some.inj ((hg1 us h1).symm.trans hu)
      have e2 : g2 = z := Option.some.inj ((hg2 ws h2).symm.trans hz)
      subst e1 e2
      exact rep_pair x2.sh hT ru rz⟩
end
/-! ### sorted -/
def sortI (ns : List Int) : List Int := ns.mergeSort (fun a b => decide (a ≤ b))
def opSorted : List D → Option D
  | [.lst ds] => (intsOf ds).map fun ns => .lst ((sortI ns).map D.int)
  | _ => none
theorem sortI_perm (ns : List Int) : (sortI ns).Perm ns := List.mergeSort_perm ns _
theorem sortI_le (ns : List Int) : (sortI ns).Pairwise (· ≤ ·) := by
  have := List.pairwise_mergeSort (le := fun (a b : Int) => decide (a ≤ b)) (fun a b c h1 h2 => by simp at *; omega) (fun a b => by simp; omega) ns
  exact this.imp fun h => by simpa using h
theorem perm_le_eq {a b : List Int} (h : a.Perm b) (p : a.Pairwise (· ≤ ·)) (q : b.Pairwise (· ≤ ·)) : a = b := h.eq_of_pairwise (fun x y _ _ h1 h2 => by omega) p q
section
variable {X : Cx} {Γ : CM}
theorem cd_sorted {u : Prop} (hu : u) : CD Γ X (.builtin "sorted") (rSortedI X.K) opSorted [.bo] .ow := ⟨cr_sortedI, fun S H ds vs d Q sh r e k => by
  match ds, e, r with
  | [.lst es], e, r =>
    obtain ⟨v, rfl, r1⟩ := ArgMs.get1 r
    obtain ⟨ns, e1, rfl⟩ := map_some (show (intsOf es).map (fun ns => D.lst ((sortI ns).map D.int)) = some d from e)
    obtain ⟨p, ws, ev, hp, hl, rl⟩ := r1.lst sh (Same.refl _)
    have ew := rl.intsOf e1
    refine ⟨p, ns, by rw [ev], by rw [← ew]; exact SqL.of hp, fun ns' q hperm hle hq => ?_⟩
    have es' : ns' = sortI ns := perm_le_eq (hperm.trans (sortI_perm ns).symm) hle (sortI_le ns)
    subst es'
    have l1 : ns.length = es.length := by have := rl.length; rw [ew, List.length_map] at this; exact this
    exact k.newL rfl sh (by rw [List.length_map, (sortI_perm ns).length_eq, l1]; exact hl) (RepL.ints _) hq⟩
end
end Dl
/-! len(set(list)): ints and texts, any of them alike. -/
namespace Dl
open PySem L2 PyProof.Rows
/-! ### each once, in the order met -/
section
variable {α : Type} [DecidableEq α]
def dd (xs : List α) : List α := xs.foldl (fun acc x => if x ∈ acc then acc else acc ++ [x]) []
def nd (xs : List α) : Nat := (dd xs).length
theorem dd_snoc (xs : List α) (x : α) : dd (xs ++ [x]) = if x ∈ dd xs then dd xs else dd xs ++ [x] := by unfold dd; rw [List.foldl_append]; rfl
theorem snoc_ind {P : List α → Prop} (h0 : P []) (h1 : ∀ xs x, P xs → P (xs ++ [x])) (xs : List α) : P xs := by
  have : ∀ n, ∀ ys : List α, ys.length = n → P ys := by
    intro n
    induction n with
    | zero => intro ys h; rw [List.length_eq_zero_iff.mp h]; exact h0
    | succ n ih =>
      intro ys h
      have ne : ys ≠ [] := fun e => by rw [e] at h; cases h
      have e := List.dropLast_concat_getLast ne
      rw [← e]
      exact h1 _ _ (ih _ (by rw [List.length_dropLast, h]; rfl))
  exact this _ xs rfl
theorem mem_dd {k : α} (xs : List α) : k ∈ dd xs ↔ k ∈ xs := by
  refine snoc_ind (P := fun xs => k ∈ dd xs ↔ k ∈ xs) (by simp [dd]) (fun xs x ih => ?_) xs
  rw [dd_snoc]
  split
  · rename_i h
    rw [ih, List.mem_append, List.mem_singleton]
    constructor
    · exact .inl
    · rintro (z | rfl)
      · exact z
      · exact ih.mp h
  · rw [List.mem_append, ih, List.mem_append]
theorem nd_le (xs : List α) : nd xs ≤ xs.length := by
  refine snoc_ind (P := fun xs => nd xs ≤ xs.length) (Nat.le_refl _) (fun xs x ih => ?_) xs
  unfold nd at *
  rw [dd_snoc, List.length_append]
  split
  · omega
  · rw [List.length_append]; exact Nat.add_le_add_right ih 1
theorem nd_nodup (xs : List α) : xs.Nodup ↔ nd xs = xs.length := by
  refine snoc_ind (P := fun xs => xs.Nodup ↔ nd xs = xs.length) (by simp [nd, dd]) (fun xs x ih => ?_) xs
  have hl := nd_le xs
  have e : nd (xs ++ [x]) = if x ∈ xs then nd xs else nd xs + 1 := by
    unfold nd
    rw [dd_snoc]
    by_cases c : x ∈ xs
    · rw [if_pos ((mem_dd xs).mpr c), if_pos c]
    · rw [if_neg (fun z => c ((mem_dd xs).mp z)), if_neg c, List.length_append]; rfl
  rw [List.nodup_append, e, List.length_append, List.length_singleton]
  by_cases c : x ∈ xs
  · rw [if_pos c]
    constructor
    · intro h; exact absurd rfl (h.2.2 x c x (List.mem_singleton.mpr rfl))
    · intro h; omega
  · rw [if_neg c]
    constructor
    · intro h; rw [ih.mp h.1]
    · intro h
      exact ⟨ih.mpr (by omega), by simp, fun a ha b hb => by rw [List.mem_singleton.mp hb]; exact fun z => c (z ▸ ha)⟩
end
theorem or_snoc (k x : Str) (l : List Str) : (decide (k ∈ l) || decide (k = x)) = decide (k ∈ l ++ [x]) := by
  by_cases c1 : k ∈ l <;> by_cases c2 : k = x <;> simp [c1, c2]
theorem firstMet_dd (ns : List Int) : ∀ n, n ≤ ns.length → firstMet (fun i => ns.getD i 0) n = dd (ns.take n)
  | 0, _ => rfl
  | n + 1, h => by
    have e : ns.take (n + 1) = ns.take n ++ [ns[n]] := by rw [List.take_add_one, List.getElem?_eq_getElem (by omega)]; rfl
    have g : ns.getD n 0 = ns[n] := by rw [List.getD_eq_getElem?_getD, List.getElem?_eq_getElem (by omega)]; rfl
    rw [firstMet_succ, firstMet_dd ns n (by omega), e, dd_snoc, g]
    have : ((dd (ns.take n)).any (· == ns[n])) = decide (ns[n] ∈ dd (ns.take n)) := by
      apply Bool.eq_iff_iff.mpr
      rw [List.any_eq_true, decide_eq_true_iff]
      exact ⟨fun ⟨y, hy, q⟩ => (eq_of_beq q) ▸ hy, fun h => ⟨_, h, beq_self_eq_true _⟩⟩
    show (if (dd (ns.take n)).any (· == ns[n]) = true then dd (ns.take n) else dd (ns.take n) ++ [ns[n]]) = _
    rw [this]
    by_cases c : ns[n] ∈ dd (ns.take n)
    · rw [decide_eq_true c, if_pos rfl, if_pos c]
    · rw [decide_eq_false c, if_neg Bool.false_ne_true, if_neg c]
/-! ### texts -/
section
variable {prog : Program} {w : World} {A : Around} {R : Result → Shared → Prop} {it : Addr} {fp wr : List Addr} {G : Array GenState → Array GenState → Prop} {n : Nat} {P : Nat → Value → Prop} {St : Nat → Shared → Prop}
def SetS (prog : Program) (w : World) (h : Heap) (a : Addr) (xs : List Str) : Prop := h.SetOf (PySem.strKind prog w) a (fun k => decide (k ∈ xs)) (nd xs)
theorem strs_turns (W : WalksS prog w A.in1 it fp wr G n P St) (a : Addr) (ha : a ∉ fp) (xs : List Str) (hz : xs.length = n) (hb : n + 1 < scanBound)
    (hv : ∀ i v, P i v → ∃ t, v = .str (xs.getD i Str.empty) t) :
    ∀ (k i : Nat) (s : Shared), n - i = k → i ≤ n → St i s → SetS prog w s.heap a (xs.take i) →
      (∀ s', Moved (a :: wr) G s s' → SetS prog w s'.heap a xs → R (.ok (.ret .none)) s') →
      codeAny (model prog w) A (.builtin "set.update.loop" ⟨[.ref a, .ref it], []⟩) R s := by
  have hw : a ∉ wr := fun h => ha (W.sub _ h)
  have up : ∀ b ∈ wr, b ∈ a :: wr := fun b hb => List.mem_cons_of_mem _ hb
  have moves : ∀ {s s' : Shared} {ys : List Str}, Moved wr G s s' → SetS prog w s.heap a ys → SetS prog w s'.heap a ys := fun {s s' ys} hm hS => by
    obtain ⟨o, es, ep, t, ho, rest⟩ := hS
    exact ⟨o, es, ep, t, hm.heap a _ hw ho, rest⟩
  intro k
  induction k with
  | zero =>
    intro i s hk hi hst hS hR
    have e : i = n := by omega
    subst e
    refine codeAny_builtin F.entry_set_update_loop ?_
    rw [Around.under_plainId F.plain_set_update_loop _]
    show wpAny _ A.in1 (pyNext (.ref it) >>= _) _ _ s
    refine wpAny_bind (W.done s _ _ hst fun s1 hm => ?_)
    show wpAny _ A.in1 (ret Value.none) _ _ s1
    have hS1 := moves hm hS
    rw [← hz, List.take_length] at hS1
    exact wpAny_pure (hR s1 (hm.mono up) hS1)
  | succ k ih =>
    intro i s hk hi hst hS hR
    have hlt : i < n := by omega
    have hlt2 : i < xs.length := by omega
    refine codeAny_builtin F.entry_set_update_loop ?_
    rw [Around.under_plainId F.plain_set_update_loop _]
    show wpAny _ A.in1 (pyNext (.ref it) >>= _) _ _ s
    refine wpAny_bind (W.item i s _ _ hlt hst fun v s1 hP hst1 hm => ?_)
    obtain ⟨t, rfl⟩ := hv i v hP
    have hS1 := moves hm hS
    have g : xs.getD i Str.empty = xs[i] := by rw [List.getD_eq_getElem?_getD, List.getElem?_eq_getElem hlt2]; rfl
    have few : nd (xs.take i) + 1 < scanBound := by
      have := nd_le (xs.take i)
      rw [List.length_take] at this
      omega
    rw [g]
    show wpAny _ A.in1 (holding [Value.str xs[i] t] (setAdd a (.str xs[i] t)) >>= _) _ _ s1
    refine wpAny_bind (wpAny_holding ?_)
    unfold setAdd
    refine wpAny_holding (wpAny_bind ((PySem.strKind prog w).pyHash (k := xs[i]) (strKind_is _ _ _ _) ?_))
    refine wpAny_setAddHashed_of (knd := PySem.strKind prog w) (s := { s1 with toks := s1.toks + 1 }) (strKind_is _ _ _ _) rfl hS1 (by omega) fun h2 sb hS2 => ?_
    have e2 : xs.take (i + 1) = xs.take i ++ [xs[i]] := by rw [List.take_add_one, List.getElem?_eq_getElem hlt2]; rfl
    have hS3 : SetS prog w h2 a (xs.take (i + 1)) := by
      rw [e2]
      refine SetOf_congr hS2 (fun k' => ?_) ?_
      · show (decide (k' ∈ xs.take i) || decide (k' = xs[i])) = decide (k' ∈ xs.take i ++ [xs[i]])
        exact or_snoc _ _ _
      · unfold nd
        rw [dd_snoc]
        by_cases c : xs[i] ∈ xs.take i
        · have c' : xs[i] ∈ dd (xs.take i) := (mem_dd _).mpr c
          simp [c, c']
        · have c' : ¬ xs[i] ∈ dd (xs.take i) := fun z => c ((mem_dd _).mp z)
          simp [c, c']
    refine wpAny_pure ⟨plainId_quiet F.plain_set_update_loop _, ih (i + 1) _ (by omega) hlt (W.frame _ s1 _ _ hst1 (Nat.le_succ _) fun b hb o e => ?_) hS3 fun s2 hm2 hS4 => ?_⟩
    · rw [sb.2 b (fun h : b = a => ha (h ▸ hb))]; exact e
    · refine hR s2 (Moved.trans W.gtrans ((hm.mono up).then_heap (Nat.le_succ _) fun b o hb e => ?_) hm2) hS4
      rw [sb.2 b (fun h : b = a => hb (h ▸ List.mem_cons_self))]; exact e
end
section
variable {P : Program} {w : World} {A : Around} {E : Value → Shared → Prop} {s : Shared}
set_option maxHeartbeats 3200000 in
/-- set(xs), xs a list of texts -/
theorem set_of_strs {l : Addr} {items : Array Value} (xs : List Str) {Q : Value → Shared → Prop} (hh : A.handled = none) (hl : s.heap.IsList l items) (hit : StrsAre items.toList xs) (hb : xs.length + 1 < scanBound)
    (h : ∀ (h' : Heap) (tk : Nat), SetS P w h' s.heap.objs.size xs → (∀ b o, s.heap.get? b = some o → h'.get? b = some o) → Q (.ref s.heap.objs.size) { s with heap := h', toks := tk }) :
    wpAny (model P w) A (call (.type "set") [.ref l]) Q E s := by
  have sz : items.size = xs.length := by
    rw [← Array.length_toList]
    exact (StrsAre.len_eq hit)
  obtain ⟨c, tl, hmro⟩ := PySem.F.called_set.mro
  have f1 := PySem.F.called_set.made
  have f2 := PySem.F.called_set.sub
  have f3 := PySem.F.called_set.notType
  have f4 := PySem.F.called_set.canCreate
  have f5 := PySem.F.typeCall_set_1 (.ref l)
  refine wpAny_call (codeAny_of_tree ?_)
  show wpAny _ _ (callAny (.type "set") _) _ _ _
  refine wpAny_pure ⟨Code.quiet_builtin _ (by decide +kernel), codeAny_builtin PySem.F.entry_type_call ?_⟩
  rw [Around.under_plain (weight_type_call_type "set" [.ref l] []) rfl]
  repeat (any_goals (first | assumption | wp_step))
  refine codeAny_mono (code_set_led1 (.ref l) (E := E) (Q₁ := fun o s₁ => o = .ref s.heap.objs.size ∧ s₁ = { s with heap := s.heap.push (setObj w) }) ⟨rfl, rfl⟩) fun r s₁ hr => ?_
  match r, hr with
  | .error e, hr => exact hr
  | .ok (.ret obj), hr =>
    obtain ⟨rfl, rfl⟩ := hr
    have g1 : (s.heap.push (setObj w)).get? s.heap.objs.size = some (setObj w) := Heap.get?_push_size _ rfl
    have g2 : Shared.TypeIs { s with heap := s.heap.push (setObj w) } (.ref s.heap.objs.size) "set" := ⟨_, g1, rfl⟩
    have f6 := PySem.F.called_set.init.lookup
    have f7 := PySem.F.called_set.init.bind (.ref s.heap.objs.size)
    repeat (any_goals (first | assumption | wp_step))
    refine codeAny_mono (codeAny_call_builtin (R := wants (fun r s₂ => r = .none ∧ ∃ h' tk, s₂ = { s with heap := h', toks := tk } ∧ SetS P w h' s.heap.objs.size xs ∧
        (∀ b o, s.heap.get? b = some o → h'.get? b = some o)) E) PySem.F.called_set.init.plain PySem.F.entry_set_init (check_set_init_1 g2 ?_)) fun r₂ s₂ hr₂ => ?_
    · obtain ⟨ol, hol, hcl, nl, hdl⟩ := hl
      obtain ⟨ocls, odict, odata, oslots⟩ := ol
      simp only at hcl hdl
      subst hcl hdl
      have hol' : (s.heap.push (setObj w)).get? l = some { cls := .type "list", dict := odict, data := .seq items nl, slots := oslots } := Heap.get?_push_of_some _ hol
      have f8 := PySem.F.sub_list_set
      have f9 := PySem.F.sub_list_frozenset
      have hne : (Value.type "list" == Value.type "dict") = false := by decide
      have hl1 : (s.heap.push (setObj w)).IsList l items := ⟨_, hol', rfl, nl, rfl⟩
      unfold Builtin.«set.__init__» noKeywords Builtin.Frozenset.updateFrom
      generalize hPI : pyIter = PI
      wp_walk
      subst hPI
      refine wpAny_pyIter_list hl1 ?_
      refine wpAny_bind (wpAny_runValue ?_)
      have lS : l < s.heap.objs.size := Heap.lt_size hol
      have hh3 : A.in1.in1.in1.handled = none := by simp [hh]
      have n1 : l ≠ (s.heap.push (setObj w)).objs.size := by rw [Heap.size_push]; exact Nat.ne_of_lt (Nat.lt_succ_of_lt lS)
      have n2 : s.heap.objs.size ∉ [(s.heap.push (setObj w)).objs.size, l] := by
        rw [Heap.size_push]
        simp only [List.mem_cons, List.not_mem_nil, or_false, not_or]
        exact ⟨Nat.ne_of_lt (Nat.lt_succ_self _), Nat.ne_of_gt lS⟩
      have hval : ∀ (i : Nat) (v : Value), items[i]? = some v → ∃ t, v = .str (xs.getD i Str.empty) t := fun i v hv => SS.strs_at hit i v (by rw [Array.getElem?_toList]; exact hv)
      have new : SetS P w (s.heap.push (setObj w)) s.heap.objs.size (xs.take 0) := SetOf_congr ((setObjOf_fresh (knd := PySem.strKind P w) (!w.params.followText "set-order")).setOf g1 (by unfold scanBound; omega)) (fun _ => by simp) (by simp [nd, dd])
      refine strs_turns ((Walks.list hh3 _ l n1 items).toS) s.heap.objs.size n2 xs sz.symm (by omega) hval (items.size - 0) 0 _ (by omega) (Nat.zero_le _) ⟨⟨_, Heap.get?_push_size _ rfl, rfl, rfl⟩, (hl1.push _)⟩ ?a0 ?aR
      case a0 =>
        obtain ⟨o, es, ep, t, ho, rest⟩ := new
        exact ⟨o, es, ep, t, Heap.get?_push_of_some _ ho, rest⟩
      case aR =>
        intro s' hm hS'
        obtain ⟨h', g', d', tk', os'⟩ := s'
        have eg : g' = s.gens := hm.gens
        have ed : d' = s.drawn := hm.drawn
        have eo : os' = s.os := hm.os
        subst eg ed eo
        show wpAny _ _ _ _ _ _
        refine wpAny_pure ?_
        show wpAny _ _ (ret Value.none) _ _ _
        refine wpAny_pure ⟨rfl, h', tk', rfl, hS', fun b o e => ?_⟩
        have hb0 := Heap.lt_size e
        refine hm.heap b o ?_ (Heap.get?_push_of_some _ (Heap.get?_push_of_some _ e))
        simp only [List.mem_cons, List.not_mem_nil, or_false, not_or]
        refine ⟨Nat.ne_of_lt hb0, ?_⟩
        rw [Heap.size_push]
        exact Nat.ne_of_lt (Nat.lt_succ_of_lt hb0)
    · match r₂, hr₂ with
      | .error e, hr₂ => exact hr₂
      | .ok (.ret r), hr₂ =>
        obtain ⟨rfl, h', tk, rfl, hS', hk'⟩ := hr₂
        repeat (any_goals (first | assumption | wp_step))
        exact h _ _ hS' hk'
      | .ok .next, hr₂ => exact hr₂.elim
      | .ok .brk, hr₂ => exact hr₂.elim
      | .ok .cont, hr₂ => exact hr₂.elim
  | .ok .next, hr => exact hr.elim
  | .ok .brk, hr => exact hr.elim
  | .ok .cont, hr => exact hr.elim
end
/-! ### the rule -/
section
variable {X : Cx} {Γ : CM} {M : List Mode} {a : Expr} {ta : TE} {f : Ev} {m : Mode}
def tLenSet (K : PySem.W.Frag) (ta : TE) : TE := fun σ H Q => ta σ H fun x H1 => ∃ l : Addr, x = .ref l ∧ ((∃ ns : List Int, SqL K H1 l (ns.map V.int) ∧ ns.length ≤ 4000 ∧ Q (.int (nd ns : Nat)) H1) ∨ ∃ xs : List Str, SqL K H1 l (xs.map V.str) ∧ xs.length ≤ 4000 ∧ Q (.int (nd xs : Nat)) H1)
theorem pe_lenSetG {p p2 q pos : Pos} (hc : X.calm = true) (hg : Gl X "len") (hm : X.mg "len" = none) (hg2 : Gl X "set") (hm2 : X.mg "set" = none) (ha : PE X a ta)
    (na : starEach [a] X.env = (false, eval a X.env) :: starEach [] X.env := by rfl) : PE X (.Call (.Name "len" p) [.Call (.Name "set" p2) [a] [] q] [] pos) (tLenSet X.K ta) := by
  refine ⟨fun pins s σ H Q I h => ?_⟩
  refine Call_ (ld_blt I hg hm boot_len ?_)
  refine callWith_builtin1 (args_cons ?_ rfl) rfl rfl
  refine Call_ (ld_blt I hg2 hm2 boot_set ?_)
  refine callWith_type1 (args_cons (thn (ha.run pins s σ H _ I h) fun v s1 ⟨x, H1, I1, r1, q1⟩ => args_nil ?_) na) na rfl
  obtain ⟨l, rfl, q1⟩ := q1
  cases r1
  rcases q1 with ⟨ns, hq, hl, q1⟩ | ⟨xs, hq, hl, q1⟩
  · obtain ⟨its, r, pl, hz⟩ := I1.list hq
    have hn : its.toArray.size = ns.length := by rw [List.size_toArray, ← r.length, List.length_map]
    refine call_set_list (I1.ok.hd hc) pl.isList (by simpa using r.ints) (by rw [hn]; unfold scanBound; omega) fun h' tk hS hk => ?_
    refine args_nil ?_
    rw [hn, firstMet_dd ns ns.length (Nat.le_refl _), List.take_length] at hS
    obtain ⟨o, es, ep, t, ho, hex, hd, _, _, _, hf, hsz⟩ := hS
    have I2 : Inv X pins σ H1 { s1 with heap := h', toks := tk } := I1.kept fun b o e => hk b o (Heap.lt_size e) e
    have hle := nd_le ns
    have hsz : es.size = nd ns := hsz
    exact call_len_set ho hex hd hf (by rw [hsz]; omega) ⟨.int (nd ns : Nat), H1, I2.tok _, ⟨_, by rw [hsz]⟩, q1⟩
  · obtain ⟨its, r, pl, hz⟩ := I1.list hq
    refine set_of_strs xs (I1.ok.hd hc) pl.isList (by simpa using strsAre_of r) (by unfold scanBound; omega) fun h' tk hS hk => ?_
    refine args_nil ?_
    obtain ⟨o, es, ep, t, ho, hex, hd, _, _, _, hf, hsz⟩ := hS
    have I2 : Inv X pins σ H1 { s1 with heap := h', toks := tk } := I1.kept fun b o e => hk b o e
    have hle := nd_le xs
    have hsz : es.size = nd xs := hsz
    exact call_len_set ho hex hd hf (by rw [hsz]; omega) ⟨.int (nd xs : Nat), H1, I2.tok _, ⟨_, by rw [hsz]⟩, q1⟩
def lenSetD (d : D) : Option Int := match d with
  | .lst ds => if ds.length ≤ 4000 then match intsOf ds with
    | some ns => some (nd ns : Nat)
    | none => (strsOf ds).bind fun xs => some (nd xs : Nat)
    else none
  | _ => none
def vLenSet (f : Ev) : Ev := fun δ => (f δ).bind fun d => (lenSetD d).map D.int
theorem de_lenSet {p p2 q pos : Pos} (K : PySem.W.Frag) (hc : X.calm = true) {u : Prop} (hu : u) (hm : X.mg "len" = none) (hm2 : X.mg "set" = none) (ha : DE Γ X M a ta f m) (hg : Gl X "len" := by rfl) (hg2 : Gl X "set" := by rfl)
    (na : starEach [a] X.env = (false, eval a X.env) :: starEach [] X.env := by rfl) (hK : X.K = K := by rfl) : DE Γ X M (.Call (.Name "len" p) [.Call (.Name "set" p2) [a] [] q] [] pos) (tLenSet K ta) (vLenSet f) .sh := by
  subst hK
  exact ⟨pe_lenSetG hc hg hm hg2 hm2 ha.pe na, fun S0 H0 S H σ δ Q d w ef k => by
    obtain ⟨l, e1, e2⟩ := bind_some ef
    obtain ⟨i, e3, rfl⟩ := map_some e2
    cases l with
    | lst ds =>
      have e3 : (if ds.length ≤ 4000 then match intsOf ds with | some ns => some ((nd ns : Nat) : Int) | none => (strsOf ds).bind fun xs => some ((nd xs : Nat) : Int) else none) = some i := e3
      split at e3
      · rename_i hl4
        refine ha.snd S0 H0 S H σ δ _ _ w e1 fun v S1 H1 x1 r1 _ => ?_
        obtain ⟨p, vs, ev, hp, hl, rl⟩ := r1.lst x1.sh (w.mono x1).h0
        have fin : ∀ n, i = n → X.K = X.K → Q (.int n) H1 := fun n e _ => e ▸ (k.ext x1).flat x1.sh rfl
        refine ⟨p, ev, ?_⟩
        split at e3
        · rename_i ns hn
          have ew := rl.intsOf hn
          have ln : ns.length = ds.length := by have := rl.length; rw [ew, List.length_map] at this; exact this
          cases e3
          exact .inl ⟨ns, by rw [← ew]; exact SqL.of hp, by omega, fin _ rfl rfl⟩
        · obtain ⟨xs, hx, e4⟩ := bind_some e3
          have ew := rl.strsOf hx
          have ln : xs.length = ds.length := by have := rl.length; rw [ew, List.length_map] at this; exact this
          cases e4
          exact .inr ⟨xs, by rw [← ew]; exact SqL.of hp, by omega, fin _ rfl rfl⟩
      · cases e3
    | _ => cases e3⟩
end
end Dl
/-! list(dict), sorted of pairs. -/
namespace Dl
open PySem L2
def kD : Key → D
  | .inl i => .int i
  | .inr x => .str x
def kOk : Key → Bool
  | .inl _ => true
  | .inr x => decide (x.length ≤ sizeLine)
def ksOk (ks : List Key) : Bool := decide (ks.length ≤ sizeLine) && ks.all kOk
section
variable {K : PySem.W.Frag} {Γ : CM} {S H S' : Hp}
theorem rep_key : ∀ {k : Key}, kOk k = true → Rep K Γ S (kD k) (kV k)
  | .inl _, _ => rfl
  | .inr _, h => ⟨rfl, of_decide_eq_true h⟩
theorem repL_keys : ∀ {ks : List Key}, ks.all kOk = true → RepL K Γ S (ks.map kD) (ks.map kV)
  | [], _ => rfl
  | k :: ks, h => by
    rw [List.all_cons, Bool.and_eq_true] at h
    exact ⟨_, _, rfl, rep_key h.1, repL_keys h.2⟩
theorem RepK.keys : ∀ {kvs : List (Key × D)} {vs : List (Key × V)}, (kvs.all fun kv => kOk kv.1) = true → RepK K Γ S kvs vs → RepL K Γ S (kvs.map fun kv => kD kv.1) (vs.map fun kv => kV kv.1)
  | [], _, _, h => by cases (show _ = [] from h); rfl
  | (k, d) :: kvs, _, h, ⟨v, ws, e, r, t⟩ => by
    subst e
    rw [List.all_cons, Bool.and_eq_true] at h
    exact ⟨_, _, rfl, rep_key h.1, RepK.keys h.2 t⟩
theorem RepT.keys : ∀ {kvs : List (List Key × D)} {vs : List (List Key × V)} {bs : List Addr}, (kvs.all fun kv => ksOk kv.1) = true → RepT K Γ S kvs vs → IsKeys H vs bs →
    (∀ b ∈ bs, ∀ xs, H b = some (.tup xs) → S' b = some (.tup xs)) → RepL K Γ S' (kvs.map fun kv => .tup (kv.1.map kD)) (bs.map V.ref) ∧ ∀ b ∈ bs, ∃ xs, H b = some (.tup xs)
  | [], _, _, _, h, q, _ => by
    cases (show _ = [] from h)
    cases q
    exact ⟨rfl, fun b hb => by cases hb⟩
  | (k, d) :: kvs, _, bs, h, ⟨v, ws, e, r, t⟩, q, f => by
    subst e
    rw [List.all_cons, Bool.and_eq_true] at h
    cases q with
    | cons q1 q2 =>
      obtain ⟨r2, h2⟩ := RepT.keys h.2 t q2 fun b hb xs hx => f b (List.mem_cons_of_mem _ hb) xs hx
      have h1 := h.1
      unfold ksOk at h1
      rw [Bool.and_eq_true] at h1
      refine ⟨⟨_, _, rfl, ⟨_, _, rfl, f _ List.mem_cons_self _ q1, by rw [List.length_map]; exact of_decide_eq_true h1.1, repL_keys h1.2⟩, r2⟩, fun b hb => ?_⟩
      rcases List.mem_cons.mp hb with rfl | hb
      · exact ⟨_, q1⟩
      · exact h2 b hb
/-- tuples that stand in the heap become shared -/
noncomputable def addT (S H : Hp) (bs : List Addr) : Hp := fun a => match S a with
  | some o => some o
  | none => open Classical in if a ∈ bs then H a else none
theorem addT_ext {bs : List Addr} (sh : Same S H) (h : ∀ b ∈ bs, ∃ xs, H b = some (.tup xs)) : Ext S H (addT S H bs) H := by
  refine ⟨fun a o e => by unfold addT; rw [e], Same.refl _, fun a o e => ?_, fun a o e t n => ?_⟩
  · unfold addT at e
    cases q : S a with
    | some o' => rw [q] at e; cases e; exact sh _ _ q
    | none =>
      rw [q] at e
      by_cases c : a ∈ bs
      · simpa only [if_pos c] using e
      · simp only [if_neg c] at e; cases e
  · unfold addT
    rw [n]
    by_cases c : a ∈ bs
    · obtain ⟨xs, hx⟩ := h a c
      rw [hx] at e; cases e; cases t
    · simp only [if_neg c]
theorem addT_at {bs : List Addr} (sh : Same S H) {b : Addr} (hb : b ∈ bs) {xs : List V} (h : H b = some (.tup xs)) : addT S H bs b = some (.tup xs) := by
  unfold addT
  cases q : S b with
  | some o => rw [sh _ _ q] at h; exact h
  | none => simp only [if_pos hb]; exact h
end
def opListD : List D → Option D
  | [.dicK kvs] => if kvs.length ≤ sizeLine ∧ (kvs.all fun kv => kOk kv.1) = true then some (.lst (kvs.map fun kv => kD kv.1)) else none
  | [.dicT kvs] => if kvs.length ≤ sizeLine ∧ (kvs.all fun kv => ksOk kv.1) = true then some (.lst (kvs.map fun kv => .tup (kv.1.map kD))) else none
  | ds => opList ds
def rListK (K : PySem.W.Frag) : List V → Hp → VK → Prop := fun xs H Q => (∃ p ys, xs = [.ref p] ∧ (SqL K H p ys ∨ SqT K H p ys) ∧ ∀ l, H l = none → Q (.ref l) (upd H l (.lst ys))) ∨
  ((∃ (a : Addr) (kvs : List (Key × V)), xs = [.ref a] ∧ Rd H a (.dK kvs) ∧ ∀ p, H p = none → Q (.ref p) (upd H p (.lst (kvs.map fun kv => kV kv.1)))) ∨
   ∃ d kvs, xs = [V.ref d] ∧ Rd H d (.dT kvs) ∧ ∀ p bs, H p = none → IsKeys H kvs bs → Q (.ref p) (upd H p (.lst (bs.map V.ref))))
section
variable {X : Cx} {Γ : CM} {K : PySem.W.Frag} {m : Mode}
theorem cd_listD (hm : okS m = true) (hc : X.calm = true) (hK : X.K = K := by rfl) : CD Γ X (.type "list") (rListK K) opListD [.bo] m := by
  subst hK
  refine ⟨call_list_of.or ((call_listD hc).or (call_list_dT hc)), fun S H ds vs d Q sh r e k => ?_⟩
  match ds, e, r with
  | [.dicK kvs], e, r =>
    obtain ⟨hc, rfl⟩ := ite_some e
    obtain ⟨v, rfl, r1⟩ := ArgMs.get1 r
    obtain ⟨p, vs, ev, hp, rl⟩ := r1.dicK sh (Same.refl _)
    exact .inr (.inl ⟨p, vs, by rw [ev], .inl hp, fun l h => k.newL hm sh (by rw [List.length_map]; exact hc.1) (RepK.keys hc.2 rl) h⟩)
  | [.dicT kvs], e, r =>
    obtain ⟨hc, rfl⟩ := ite_some e
    obtain ⟨v, rfl, r1⟩ := ArgMs.get1 r
    obtain ⟨p, vs, ev, hp, rl⟩ := r1.dicT sh (Same.refl _)
    refine .inr (.inr ⟨p, vs, by rw [ev], .inl hp, fun l bs h hb => ?_⟩)
    obtain ⟨_, h2⟩ := RepT.keys (S' := H) hc.2 rl hb fun b _ xs hx => hx
    have x := addT_ext sh h2
    obtain ⟨r2, _⟩ := RepT.keys (S' := addT S H bs) hc.2 rl hb fun b hb xs hx => addT_at sh hb hx
    have k' : Kont X.K Γ H (addT S H bs) H m _ Q := fun v S2 H2 e r f => k v S2 H2 (x.trans e) r f
    exact k'.newL hm x.sh (by rw [List.length_map]; exact hc.1) r2 h
  | [.lst es], e, r => exact .inl ((cd_list (Γ := Γ) (X := X) hm).snd S H _ vs d Q sh r e k)
  | [.tup es], e, r => exact .inl ((cd_list (Γ := Γ) (X := X) hm).snd S H _ vs d Q sh r e k)
end
/-! ### sorted of pairs of ints -/
def pD (p : Int × Int) : D := .tup [.int p.1, .int p.2]
def pairsOf : List D → Option (List (Int × Int))
  | [] => some []
  | .tup [.int i, .int j] :: ds => (pairsOf ds).map ((i, j) :: ·)
  | _ => none
def lePP (p q : Int × Int) : Bool := !SrtO.lexB q p
def sortP (ps : List (Int × Int)) : List (Int × Int) := ps.mergeSort lePP
theorem lePP_trans (a b c : Int × Int) (h1 : lePP a b = true) (h2 : lePP b c = true) : lePP a c = true := by
  unfold lePP at *
  rw [Bool.not_eq_true'] at *
  have := SrtO.lexB_no.mp h1
  have := SrtO.lexB_no.mp h2
  exact SrtO.lexB_no.mpr (by omega)
theorem lePP_total (a b : Int × Int) : (lePP a b || lePP b a) = true := by
  unfold lePP
  cases q : SrtO.lexB b a with
  | false => rfl
  | true =>
    have := SrtO.lexB_iff.mp q
    rw [SrtO.lexB_no.mpr (by omega)]; rfl
theorem lePP_anti {a b : Int × Int} (h1 : lePP a b = true) (h2 : lePP b a = true) : a = b := by
  unfold lePP at *
  rw [Bool.not_eq_true'] at *
  have := SrtO.lexB_no.mp h1
  have := SrtO.lexB_no.mp h2
  exact Prod.ext (by omega) (by omega)
theorem sortP_perm (ps : List (Int × Int)) : (sortP ps).Perm ps := List.mergeSort_perm ps _
theorem sortP_le (ps : List (Int × Int)) : (sortP ps).Pairwise fun a b => lePP a b = true := List.pairwise_mergeSort lePP_trans lePP_total ps
theorem sortP_uniq {a b : List (Int × Int)} (h : a.Perm b) (p : a.Pairwise fun a b => lePP a b = true) (q : b.Pairwise fun a b => lePP a b = true) : a = b := h.eq_of_pairwise (fun x y _ _ h1 h2 => lePP_anti h1 h2) p q
def opSortedD : List D → Option D
  | [.lst ds] => match intsOf ds with
    | some ns => some (.lst ((sortI ns).map D.int))
    | none => (pairsOf ds).map fun ps => .lst ((sortP ps).map pD)
  | _ => none
section
variable {X : Cx} {Γ : CM}
theorem pairsOf_map : ∀ {ds : List D} {ps : List (Int × Int)}, pairsOf ds = some ps → ds = ps.map pD
  | [], _, e => by cases e; rfl
  | .tup [.int i, .int j] :: ds, _, e => by
    obtain ⟨qs, e1, rfl⟩ := map_some (show (pairsOf ds).map ((i, j) :: ·) = _ from e)
    rw [List.map_cons, ← pairsOf_map e1]; rfl
noncomputable def kH (S : Hp) : V → Int × Int
  | .ref t => match S t with
    | some (.tup [.int i, .int j]) => (i, j)
    | _ => (0, 0)
  | _ => (0, 0)
theorem repL_pairs {K : PySem.W.Frag} {S : Hp} : ∀ {ps : List (Int × Int)} {vs : List V}, RepL K Γ S (ps.map pD) vs → vs.map (kH S) = ps ∧ ∀ v ∈ vs, (∃ t, v = .ref t ∧ S t = some (.tup [.int (kH S v).1, .int (kH S v).2]))
  | [], _, h => by cases (show _ = [] from h); exact ⟨rfl, fun v hv => by cases hv⟩
  | p :: ps, _, ⟨v, ws, e, r, t⟩ => by
    subst e
    obtain ⟨a, xs, rfl, hS, _, rl⟩ := r
    obtain ⟨x, xs', rfl, rx, y, ys', rfl, ry, rfl⟩ := rl
    cases (show x = .int p.1 from rx)
    cases (show y = .int p.2 from ry)
    have e1 : kH S (.ref a) = p := by show (match S a with | some (.tup [.int i, .int j]) => (i, j) | _ => (0, 0)) = p; rw [hS]
    obtain ⟨e2, h2⟩ := repL_pairs t
    refine ⟨by rw [List.map_cons, e1, e2], fun v hv => ?_⟩
    rcases List.mem_cons.mp hv with rfl | hv
    · exact ⟨a, rfl, by rw [e1]; exact hS⟩
    · exact h2 v hv
theorem repL_of_pairs {K : PySem.W.Frag} {S : Hp} : ∀ {vs : List V}, (∀ v ∈ vs, (∃ t, v = .ref t ∧ S t = some (.tup [.int (kH S v).1, .int (kH S v).2]))) → RepL K Γ S ((vs.map (kH S)).map pD) vs
  | [], _ => rfl
  | v :: vs, h => by
    obtain ⟨t, rfl, hS⟩ := h v List.mem_cons_self
    exact ⟨_, _, rfl, ⟨t, _, rfl, hS, two_le, ⟨_, _, rfl, rfl, _, _, rfl, rfl, rfl⟩⟩, repL_of_pairs fun v hv => h v (List.mem_cons_of_mem _ hv)⟩
theorem cd_sortedD {u : Prop} (hu : u) : CD Γ X (.builtin "sorted") (fun vs H Q => rSortedI X.K vs H Q ∨ rSortedPO X.K vs H Q) opSortedD [.bo] .ow := by
  refine ⟨cr_sortedI.or cr_sortedPO, fun S H ds vs d Q sh r e k => ?_⟩
  match ds, e, r with
  | [.lst es], e, r =>
    cases q : intsOf es with
    | some ns =>
      refine .inl ((cd_sorted (Γ := Γ) (X := X) hu).snd S H _ vs d Q sh r ?_ k)
      have e : (match intsOf es with | some ns => some (D.lst ((sortI ns).map D.int)) | none => (pairsOf es).map fun ps => D.lst ((sortP ps).map pD)) = some d := e
      rw [q] at e
      show (intsOf es).map (fun ns => D.lst ((sortI ns).map D.int)) = some d
      rw [q]; exact e
    | none =>
      have e : (match intsOf es with | some ns => some (D.lst ((sortI ns).map D.int)) | none => (pairsOf es).map fun ps => D.lst ((sortP ps).map pD)) = some d := e
      rw [q] at e
      obtain ⟨ps, e1, rfl⟩ := map_some e
      cases pairsOf_map e1
      obtain ⟨v, rfl, r1⟩ := ArgMs.get1 r
      obtain ⟨p, ws, ev, hp, hl, rl⟩ := r1.lst sh (Same.refl _)
      obtain ⟨e2, h2⟩ := repL_pairs rl
      refine .inr ⟨p, ws, kH S, by rw [ev], SqL.of hp, fun x hx => ?_, fun ys q hs hb hq => ?_⟩
      · obtain ⟨t, e3, hS⟩ := h2 x hx
        exact ⟨t, e3, sh _ _ hS⟩
      · have pm : ys.Perm ws := hb.perm
        have e4 : ys.map (kH S) = sortP ps := by
          refine sortP_uniq ((pm.map _).trans ?_) ?_ (sortP_le ps)
          · rw [e2]; exact (sortP_perm ps).symm
          · rw [List.pairwise_map]
            refine hs.imp fun h => ?_
            unfold lePP
            rw [Bool.not_eq_true']
            exact h
        refine k.newL rfl sh ?_ ?_ hq
        · rw [List.length_map, (sortP_perm ps).length_eq]; rw [List.length_map] at hl; exact hl
        · rw [← e4]
          exact repL_of_pairs fun v hv => h2 v (pm.mem_iff.mp hv)
end
end Dl
/-! d.get, dict(pairs). -/
namespace Dl
open PySem L2
def opGet (o k d : D) : Option D := match o with
  | .dicK kvs => (keyD k).map fun j => (lookK kvs j).getD d
  | .dicT kvs => (keysD k).map fun j => (lookT kvs j).getD d
  | _ => none
def vGet2 (fo fk fd : Ev) : Ev := fun δ => (fo δ).bind fun o => (fk δ).bind fun k => (fd δ).bind fun d => opGet o k d
def vGet1 (fo fk : Ev) : Ev := fun δ => (fo δ).bind fun o => (fk δ).bind fun k => opGet o k .non
section
variable {X : Cx} {Γ : CM} {M : List Mode} {o e f : Expr} {to te tf : TE} {fo fk fd : Ev} {mo mk md : Mode} {apos cpos : Pos}
theorem de_dget2 (hu : X.A.units + 64 < cLine) (ho : DE Γ X M o to fo mo) (hk : DE Γ X M e te fk mk) (hf : DE Γ X M f tf fd md) (hmk : okS mk = true := by rfl) (hmd : okS md = true := by rfl) (m : M2 X o "get" apos e f cpos := by exact ⟨rfl, rfl, rfl, rfl⟩) :
    DE Γ X M (.Call (.Attribute o "get" apos) [e, f] [] cpos) (tDGet2 to te tf) (vGet2 fo fk fd) .sh := by
  refine ⟨pe_dget2 (by omega) ho.pe hk.pe hf.pe m, fun S0 H0 S H σ δ Q d w ef k => ?_⟩
  obtain ⟨od, e1, e2⟩ := bind_some ef
  obtain ⟨kd, e3, e4⟩ := bind_some e2
  obtain ⟨dd, e5, e6⟩ := bind_some e4
  refine ho.snd S0 H0 S H σ δ _ od w e1 fun v S1 H1 x1 r1 _ => ?_
  have w1 := w.mono x1
  cases od with
  | dicK kvs =>
    obtain ⟨j, e7, rfl⟩ := map_some (show (keyD kd).map (fun j => (lookK kvs j).getD dd) = some d from e6)
    obtain ⟨a, vs, rfl, h, rk⟩ := r1.dicK x1.sh w1.h0
    refine ⟨a, rfl, .inl ⟨vs, .inl h⟩, (hk.snd.sh hmk) S0 H0 S1 H1 σ δ _ kd w1 e3 fun y S2 H2 x2 r2 _ => (hf.snd.sh hmd) S0 H0 S2 H2 σ δ _ dd (w1.mono x2) e5 fun z S3 H3 x3 r3 _ => ⟨valV vs j, ?_, ?_⟩⟩
    · exact dget_k (kvs := kvs) (Rep.mono (x3.ss.trans x3.sh) (show Rep X.K Γ S2 kd y from r2)) e7 (x3.hh _ _ (x2.hh _ _ h))
    · have hv := valV_look j (rk.mono (x2.ss.trans x3.ss))
      have xx := (x1.trans x2).trans x3
      cases q : lookK kvs j with
      | none => rw [q] at hv k; rw [hv]; exact k z S3 H3 xx r3 fun z => by cases z
      | some d' => rw [q] at hv k; obtain ⟨v', e8, r8⟩ := hv; rw [e8]; exact k v' S3 H3 xx r8 fun z => by cases z
  | dicT kvs =>
    obtain ⟨j, e7, rfl⟩ := map_some (show (keysD kd).map (fun j => (lookT kvs j).getD dd) = some d from e6)
    obtain ⟨a, vs, rfl, h, rk⟩ := r1.dicT x1.sh w1.h0
    refine ⟨a, rfl, .inr ⟨vs, .inl h⟩, (hk.snd.sh hmk) S0 H0 S1 H1 σ δ _ kd w1 e3 fun y S2 H2 x2 r2 _ => (hf.snd.sh hmd) S0 H0 S2 H2 σ δ _ dd (w1.mono x2) e5 fun z S3 H3 x3 r3 _ => ⟨valV vs j, ?_, ?_⟩⟩
    · exact dget_t (Rep.mono (x3.ss.trans x3.sh) (show Rep X.K Γ S2 kd y from r2)) e7 (x3.hh _ _ (x2.hh _ _ h))
    · have hv := valV_lookT j (rk.mono (x2.ss.trans x3.ss))
      have xx := (x1.trans x2).trans x3
      cases q : lookT kvs j with
      | none => rw [q] at hv k; rw [hv]; exact k z S3 H3 xx r3 fun z => by cases z
      | some d' => rw [q] at hv k; obtain ⟨v', e8, r8⟩ := hv; rw [e8]; exact k v' S3 H3 xx r8 fun z => by cases z
  | _ => cases e6
theorem de_dget1 (hu : X.A.units + 64 < cLine) (ho : DE Γ X M o to fo mo) (hk : DE Γ X M e te fk mk) (hmk : okS mk = true := by rfl) (m : M1 X o "get" apos e cpos := by exact ⟨rfl, rfl, rfl, rfl⟩) :
    DE Γ X M (.Call (.Attribute o "get" apos) [e] [] cpos) (tDGet1 to te) (vGet1 fo fk) .sh := by
  refine ⟨pe_dget1 (by omega) ho.pe hk.pe m, fun S0 H0 S H σ δ Q d w ef k => ?_⟩
  obtain ⟨od, e1, e2⟩ := bind_some ef
  obtain ⟨kd, e3, e6⟩ := bind_some e2
  refine ho.snd S0 H0 S H σ δ _ od w e1 fun v S1 H1 x1 r1 _ => ?_
  have w1 := w.mono x1
  cases od with
  | dicK kvs =>
    obtain ⟨j, e7, rfl⟩ := map_some (show (keyD kd).map (fun j => (lookK kvs j).getD .non) = some d from e6)
    obtain ⟨a, vs, rfl, h, rk⟩ := r1.dicK x1.sh w1.h0
    refine ⟨a, rfl, .inl ⟨vs, .inl h⟩, (hk.snd.sh hmk) S0 H0 S1 H1 σ δ _ kd w1 e3 fun y S2 H2 x2 r2 _ => ⟨valV vs j, ?_, ?_⟩⟩
    · exact dget_k (kvs := kvs) (Rep.mono x2.sh (show Rep X.K Γ S2 kd y from r2)) e7 (x2.hh _ _ h)
    · have hv := valV_look j (rk.mono x2.ss)
      have xx := x1.trans x2
      cases q : lookK kvs j with
      | none => rw [q] at hv k; rw [hv]; exact k .non S2 H2 xx rfl fun z => by cases z
      | some d' => rw [q] at hv k; obtain ⟨v', e8, r8⟩ := hv; rw [e8]; exact k v' S2 H2 xx r8 fun z => by cases z
  | dicT kvs =>
    obtain ⟨j, e7, rfl⟩ := map_some (show (keysD kd).map (fun j => (lookT kvs j).getD .non) = some d from e6)
    obtain ⟨a, vs, rfl, h, rk⟩ := r1.dicT x1.sh w1.h0
    refine ⟨a, rfl, .inr ⟨vs, .inl h⟩, (hk.snd.sh hmk) S0 H0 S1 H1 σ δ _ kd w1 e3 fun y S2 H2 x2 r2 _ => ⟨valV vs j, ?_, ?_⟩⟩
    · exact dget_t (Rep.mono x2.sh (show Rep X.K Γ S2 kd y from r2)) e7 (x2.hh _ _ h)
    · have hv := valV_lookT j (rk.mono x2.ss)
      have xx := x1.trans x2
      cases q : lookT kvs j with
      | none => rw [q] at hv k; rw [hv]; exact k .non S2 H2 xx rfl fun z => by cases z
      | some d' => rw [q] at hv k; obtain ⟨v', e8, r8⟩ := hv; rw [e8]; exact k v' S2 H2 xx r8 fun z => by cases z
  | _ => cases e6
end
/-! ### dict(pairs) -/
def pairsKD : List D → Option (List (Key × D))
  | [] => some []
  | .tup [k, v] :: ds => (keyD k).bind fun j => (pairsKD ds).map ((j, v) :: ·)
  | _ => none
def opDictP : List D → Option D
  | [.lst ds] => (pairsKD ds).map fun kvs => .dicK (mergeD [] kvs)
  | _ => none
theorem pairsKD_cons {d : D} {ds : List D} {kvs : List (Key × D)} (h : pairsKD (d :: ds) = some kvs) : ∃ k x j kvs', d = .tup [k, x] ∧ keyD k = some j ∧ pairsKD ds = some kvs' ∧ kvs = (j, x) :: kvs' := by
  unfold pairsKD at h
  split at h
  · rename_i q; cases q
  · rename_i k x ds' q
    cases q
    obtain ⟨j, e1, e2⟩ := bind_some h
    obtain ⟨kvs', e3, e4⟩ := map_some e2
    exact ⟨k, x, j, kvs', rfl, e1, e3, e4.symm⟩
  · cases h
section
variable {X : Cx} {Γ : CM} {K : PySem.W.Frag} {S H : Hp}
theorem RepL.pairsKD (sh : Same S H) : ∀ {ds : List D} {ws : List V} {kvs : List (Key × D)}, RepL K Γ S ds ws → pairsKD ds = some kvs → ∃ (ps : List Addr) (vs : List (Key × V)), ws = ps.map V.ref ∧ Paired (fun p (kv : Key × V) => SqT K H p [kV kv.1, kv.2]) ps vs ∧ RepK K Γ S kvs vs
  | [], _, _, r, e => by
    cases e
    cases (show _ = [] from r)
    exact ⟨[], [], rfl, .nil, rfl⟩
  | d :: ds, _, _, ⟨v, ws, e0, r, t⟩, e => by
    subst e0
    obtain ⟨k, x, j, kvs', rfl, e1, e3, rfl⟩ := pairsKD_cons e
    obtain ⟨ps, vs, rfl, hp, hr⟩ := RepL.pairsKD sh t e3
    obtain ⟨a, xs, rfl, hS, _, u, us, rfl, ru, y, ys, rfl, ry, rfl⟩ := r
    exact ⟨a :: ps, (j, y) :: vs, rfl, .cons (by rw [← ru.key e1]; exact SqT.of (sh _ _ hS)) hp, ⟨y, vs, rfl, ry, hr⟩⟩
theorem cd_dictP {m : Mode} (hm : okS m = true) (hc : X.calm = true) (hK : X.K = K := by rfl) : CD Γ X (.type "dict") (fun xs H Q => ∃ (a : Addr) (ps : List Addr) (kvs : List (Key × V)), xs = [.ref a] ∧ SqL K H a (ps.map V.ref) ∧ Paired (fun p kv => SqT K H p [kV kv.1, kv.2]) ps kvs ∧ ∀ p, H p = none → Q (.ref p) (upd H p (.dK (mergeK [] kvs)))) opDictP [.bo] m := by
  subst hK
  refine ⟨call_dictP hc, fun S H ds vs d Q sh r e k => ?_⟩
  match ds, e, r with
  | [.lst es], e, r =>
    obtain ⟨kvs, e1, rfl⟩ := map_some (show (pairsKD es).map (fun kvs => D.dicK (mergeD [] kvs)) = some d from e)
    obtain ⟨v, rfl, r1⟩ := ArgMs.get1 r
    obtain ⟨p, ws, rfl, hp, hl, rl⟩ := r1.lst sh (Same.refl _)
    obtain ⟨ps, vs, rfl, hpp, hr⟩ := RepL.pairsKD sh rl e1
    exact ⟨p, ps, vs, rfl, SqL.of hp, hpp, fun q hq => k.newK hm sh (hr.merge rfl) hq⟩
end
/-! ### list(text) -/
theorem call_listS {X : Cx} (hc : X.calm = true) : CallR X (.type "list") (fun xs H Q => ∃ x : Str, xs = [.str x] ∧ x.length ≤ sizeLine ∧ ∀ p, H p = none → Q (.ref p) (upd H p (.lst (x.cps.toList.map fun c => V.str ⟨#[c]⟩)))) := by
  intro pins s σ H xs us Q I r h
  obtain ⟨x, e, hz, q⟩ := h
  subst e
  obtain ⟨u, eu, rx⟩ := vals1 r
  subst eu
  obtain ⟨t, eu⟩ : ∃ t, u = Value.str x t := rx
  subst eu
  refine PySem.call_list_str (I.ok.hd hc) x t (fun h' tk acc' c' hkeep hS hacc => ?_) hz
  refine ⟨.ref s.heap.objs.size, upd H s.heap.objs.size (.lst (x.cps.toList.map fun c => V.str ⟨#[c]⟩)), I.laid hkeep (Nat.le_refl _) (show ObjOk X.prog X.w _ _ _ (.lst (x.cps.toList.map fun c => V.str ⟨#[c]⟩)) from ⟨?_, acc'.toList, c', ?_, ?_⟩), rfl, q _ (I.hok.fresh (Nat.le_refl _))⟩
  · rw [List.length_map]; show x.cps.toList.length ≤ _; rw [Array.length_toList]; exact hz
  · refine vals_of_at (by rw [List.length_map, Array.length_toList, Array.length_toList, hacc.1]) fun j y w h1 h2 => ?_
    obtain ⟨c, z, hcx, hw⟩ := hacc.2 j w (by rw [← Array.getElem?_toList]; exact h2)
    rw [List.getElem?_map, Array.getElem?_toList, hcx] at h1
    cases h1
    exact ⟨z, hw⟩
  · exact hS
def opListE : List D → Option D
  | [.str x] => some (.lst (signs x))
  | ds => opListD ds
theorem repL_signs {K : PySem.W.Frag} {Γ : CM} {S : Hp} : ∀ (cs : List Nat), RepL K Γ S (cs.map fun c => D.str ⟨#[c]⟩) (cs.map fun c => V.str ⟨#[c]⟩)
  | [] => rfl
  | c :: cs => ⟨_, _, rfl, ⟨rfl, by show 1 ≤ sizeLine; decide⟩, repL_signs cs⟩
theorem cd_listE {X : Cx} {Γ : CM} {K : PySem.W.Frag} {m : Mode} (hm : okS m = true) (hc : X.calm = true) (hK : X.K = K := by rfl) : CD Γ X (.type "list") (fun xs H Q => rListK K xs H Q ∨ ∃ x : Str, xs = [.str x] ∧ x.length ≤ sizeLine ∧ ∀ p, H p = none → Q (.ref p) (upd H p (.lst (x.cps.toList.map fun c => V.str ⟨#[c]⟩)))) opListE [.bo] m := by
  refine ⟨(cd_listD (Γ := Γ) hm hc hK).call.or (call_listS hc), fun S H ds vs d Q sh r e k => ?_⟩
  match ds, e, r with
  | [.str x], e, r =>
    cases e
    obtain ⟨rfl, hz⟩ := r.str1
    exact .inr ⟨x, rfl, hz, fun p hp => k.newL hm sh (by unfold signs; rw [List.length_map, Array.length_toList]; exact hz) (repL_signs _) hp⟩
  | [.lst a], e, r => exact .inl ((cd_listD (Γ := Γ) hm hc hK).snd S H _ vs d Q sh r e k)
  | [.tup a], e, r => exact .inl ((cd_listD (Γ := Γ) hm hc hK).snd S H _ vs d Q sh r e k)
  | [.dicK a], e, r => exact .inl ((cd_listD (Γ := Γ) hm hc hK).snd S H _ vs d Q sh r e k)
  | [.dicT a], e, r => exact .inl ((cd_listD (Γ := Γ) hm hc hK).snd S H _ vs d Q sh r e k)
end Dl
/-! x.pop(i), x.clear() as statements on an owned list. -/
namespace Dl
open PySem L2
section
variable {X : Cx} {Γ : CM} {E : WX} {rm m m' : Mode} {M : List Mode} {e a b : Expr} {te ta tb : TE} {f g : Ev} {pos apos cpos : Pos} {K : PySem.W.Frag}
theorem RepL.erase {K : PySem.W.Frag} {S : Hp} {ds : List D} {vs : List V} (k : Nat) (r : RepL K Γ S ds vs) : RepL K Γ S (ds.eraseIdx k) (vs.eraseIdx k) := by
  rw [List.eraseIdx_eq_take_drop_succ, List.eraseIdx_eq_take_drop_succ]
  exact (r.take k).append (r.drop (k + 1))
def sPop (i : Nat) (f : Ev) : Sv := fun δ => (vVar i δ).bind fun l => match l with
  | .lst ds => (f δ).bind fun d => match d with
    | .int j => if -(2 ^ 63) ≤ j ∧ j < 2 ^ 63 then (ixN ds.length j).bind fun k => some (putL i δ (ds.eraseIdx k)) else none
    | _ => none
  | _ => none
theorem ds_pop {i : Nat} {x : Str} {p : Pos} (hM : md M i = .ow) (he : DE Γ X M e te f m) (hm : okS m = true := by rfl) (hN : X.N[i]? = some x := by rfl) (hv : Vis X.env.scope x := by first | exact Or.inl rfl | exact Or.inr (Or.inl rfl) | exact Or.inr (Or.inr rfl)) (hd : (x == ("__debug__" : Str)) = false := by decide)
    (hcd : (x == ("__classdict__" : Str)) = false := by decide) (hbase : attributeBase (.Name x p) "pop" X.env (eval (.Name x p) X.env) = eval (.Name x p) X.env := by rfl)
    (hfew : (((backTo cpos (starEach [e] X.env)).all (!·.1)) && ((backToKw cpos (keywordEach [] X.env)).all (·.1.isSome)) && decide (([e].length + ([] : List Keyword).length + if ([] : List Keyword).isEmpty = true then 0 else 1) < 30)) = true := by rfl) (hline : (apos.endLine == cpos.line) = true := by rfl)
    (h3 : starEach [e] X.env = (false, eval e X.env) :: starEach [] X.env := by rfl) (h4 : (backTo cpos (starEach [] X.env)).any (·.1) = false := by rfl) (hs : swapsWith (.Call (.Attribute (.Name x p) "pop" apos) [e] [] cpos) none pos.line X.env = pure false := by rfl) :
    DS Γ X E rm M (.Expr (.Call (.Attribute (.Name x p) "pop" apos) [e] [] cpos) pos) (tDrop (tBM X.K "list" rPopAt (tVar i) (tCons te tNil))) (sPop i f) M [] :=
  ⟨ps_expr (pe_bm PySem.F.plainAttrs_list PySem.F.slot_list_pop PySem.F.type_list_pop mt_popAt (pe_var hN hv hd hcd) (pa_cons he.pe pa_nil h3) hbase hfew hline h3 h4) hs, fun S0 H0 S H σ δ Dn o w ef k => by
    obtain ⟨l, e1, e2⟩ := bind_some ef
    have hl := vVar_some e1
    cases l with
    | lst ds =>
      obtain ⟨d, e3, e4⟩ := bind_some e2
      cases d with
      | int j =>
        have e4 : (if -(2 ^ 63) ≤ j ∧ j < 2 ^ 63 then (ixN ds.length j).bind fun k => some (putL i δ (ds.eraseIdx k)) else none) = some o := e4
        by_cases hb : -(2 ^ 63) ≤ j ∧ j < 2 ^ 63
        case neg => rw [if_neg hb] at e4; cases e4
        rw [if_pos hb] at e4
        have e5 := e4
        obtain ⟨q, e6, e7⟩ := bind_some e5
        cases e7
        obtain ⟨p', hp, hS, vs, hH, hz, rl⟩ := w.owned hM hl
        refine ⟨_, hp, .inl ⟨rfl, vs, SqL.of hH⟩, ?_⟩
        refine (he.snd.sh hm) S0 H0 S H σ δ _ _ w e3 fun v S1 H1 x1 r1 _ => ?_
        have r2 := rl.mono x1.ss
        have r1 : v = .int j := r1.int (w.mono x1).h0
        obtain ⟨s1, s2, _, _⟩ := ixN_seq e6
        have lq : q < vs.length := by rw [rl.length]; exact s2
        refine ⟨p', vs, j, q, vs[q], rfl, by rw [r1], x1.hh _ _ hH, hb.1, hb.2, by rw [rl.length]; exact s1, List.getElem?_eq_getElem lq, ?_⟩
        exact k S1 _ σ x1.ss ((w.mono x1).write hM hl hp ⟨_, upd_same, Nat.le_trans (List.length_eraseIdx_le ..) hz, r2.erase q⟩) Fr.refl
      | _ => cases e4
    | _ => cases e2⟩
def sClr (i : Nat) : Sv := fun δ => (vVar i δ).bind fun l => match l with
  | .lst _ => some (putL i δ [])
  | _ => none
theorem ds_clear {i : Nat} {x : Str} {p : Pos} (hM : md M i = .ow) (hN : X.N[i]? = some x := by rfl) (hv : Vis X.env.scope x := by first | exact Or.inl rfl | exact Or.inr (Or.inl rfl) | exact Or.inr (Or.inr rfl)) (hd : (x == ("__debug__" : Str)) = false := by decide)
    (hcd : (x == ("__classdict__" : Str)) = false := by decide) (hbase : attributeBase (.Name x p) "clear" X.env (eval (.Name x p) X.env) = eval (.Name x p) X.env := by rfl) (hline : (apos.endLine == cpos.line) = true := by rfl)
    (hs : swapsWith (.Call (.Attribute (.Name x p) "clear" apos) [] [] cpos) none pos.line X.env = pure false := by rfl) :
    DS Γ X E rm M (.Expr (.Call (.Attribute (.Name x p) "clear" apos) [] [] cpos) pos) (tDrop (tBM0 X.K "list" rClear (tVar i))) (sClr i) M [] :=
  ⟨ps_expr (pe_bm0 PySem.F.plainAttrs_list PySem.F.slot_list_clear PySem.F.type_list_clear mt_clear (pe_var hN hv hd hcd) hbase hline) hs, fun S0 H0 S H σ δ Dn o w ef k => by
    obtain ⟨l, e1, e2⟩ := bind_some ef
    have hl := vVar_some e1
    cases l with
    | lst ds =>
      cases e2
      obtain ⟨p', hp, hS, vs, hH, hz, rl⟩ := w.owned hM hl
      refine ⟨_, hp, .inl ⟨rfl, vs, SqL.of hH⟩, p', vs, rfl, rfl, hH, ?_⟩
      exact k S _ σ (Same.refl _) (w.write hM hl hp ⟨_, upd_same, Nat.zero_le _, rfl⟩) Fr.refl
    | _ => cases e2⟩
end
end Dl
/-! sorted of texts, any number. -/
namespace Dl
open PySem L2 PyProof.Rows PySem.Spec
def rSortedSA (K : PySem.W.Frag) : List V → Hp → VK → Prop := fun vs H Q => ∃ (a : Addr) (xs : List Str), vs = [V.ref a] ∧ SqL K H a (xs.map V.str) ∧
  ∀ (ys : List Str) (p : Addr), ys.Perm xs → sortedS ys = true → H p = none → Q (.ref p) (upd H p (.lst (ys.map V.str)))
theorem cr_sortedSA {X : Cx} : CallR X (.builtin "sorted") (rSortedSA X.K) := by
  intro pins s σ H vs us Q I r h
  obtain ⟨a, xs, rfl, hs, q⟩ := h
  obtain ⟨its, rv, hl, hz⟩ := I.list hs
  rw [Vals.ref1 r]
  have hlen0 := rv.length
  rw [List.length_map] at hlen0
  have hz' : xs.length ≤ sizeLine := by rw [List.length_map] at hz; exact hz
  refine PyProof.Rows.sorted_strsAny hl.isList rv.strs (by rw [← hlen0]; exact hz') fun out ys h1 h2 h3 => ?_
  obtain ⟨ep, he'⟩ := PyProof.Rows.sortedAll_at s.heap its out
  have hlen : (ys.map V.str).length ≤ sizeLine := by rw [List.length_map, h2.length_eq]; exact hz'
  exact ⟨.ref _, upd H (s.heap.objs.size + 1) (.lst (ys.map V.str)), I.laid (t' := s.toks) (fun _ _ => PyProof.Rows.sortedAll_old) (Nat.le_succ _) ⟨hlen, out.toList, ep, vals_of_strs h1, he'⟩, rfl, q ys _ h2 h3 (I.hok.fresh (Nat.le_succ _))⟩
def leS (a b : Str) : Bool := decide (a.cps.toList ≤ b.cps.toList)
def sortS (xs : List Str) : List Str := xs.mergeSort leS
theorem leS_trans (a b c : Str) (h1 : leS a b = true) (h2 : leS b c = true) : leS a c = true :=
  decide_eq_true (List.le_trans (of_decide_eq_true h1) (of_decide_eq_true h2))
theorem leS_total (a b : Str) : (leS a b || leS b a) = true := by
  rcases List.le_total a.cps.toList b.cps.toList with h | h
  · rw [show leS a b = true from decide_eq_true h]; rfl
  · rw [show leS b a = true from decide_eq_true h, Bool.or_true]
theorem leS_anti {a b : Str} (h1 : leS a b = true) (h2 : leS b a = true) : a = b := by
  have := List.le_antisymm (of_decide_eq_true h1) (of_decide_eq_true h2)
  cases a with
  | mk x => cases b with
    | mk y => exact congrArg Str.mk (by apply Array.ext'; exact this)
theorem sortS_perm (xs : List Str) : (sortS xs).Perm xs := List.mergeSort_perm xs _
theorem sortS_le (xs : List Str) : (sortS xs).Pairwise fun a b => leS a b = true := List.pairwise_mergeSort leS_trans leS_total xs
theorem sortS_uniq {a b : List Str} (h : a.Perm b) (p : a.Pairwise fun a b => leS a b = true) (q : b.Pairwise fun a b => leS a b = true) : a = b := h.eq_of_pairwise (fun x y _ _ h1 h2 => leS_anti h1 h2) p q
theorem leS_of {a b : Str} (h : (!ltCps b.cps.toList a.cps.toList) = true) : leS a b = true := by
  rw [ltCps_eq] at h
  have h : ¬ b.cps.toList < a.cps.toList := by simpa using h
  exact decide_eq_true (List.not_lt.mp h)
theorem rising_pair : ∀ {l : List Str} {p : Str}, risingS p l = true → (p :: l).Pairwise fun a b => leS a b = true
  | [], p, _ => List.pairwise_singleton _ _
  | x :: l, p, h => by
    unfold risingS at h
    rw [Bool.and_eq_true] at h
    have ih := rising_pair h.2
    have px := leS_of h.1
    refine List.pairwise_cons.mpr ⟨fun y hy => ?_, ih⟩
    rcases List.mem_cons.mp hy with rfl | hy
    · exact px
    · exact leS_trans _ _ _ px ((List.pairwise_cons.mp ih).1 y hy)
theorem sorted_pair {l : List Str} (h : sortedS l = true) : l.Pairwise fun a b => leS a b = true := by
  cases l with
  | nil => exact .nil
  | cons x l => exact rising_pair h
def opSortedS : List D → Option D
  | [.lst ds] => (strsOf ds).map fun xs => .lst ((sortS xs).map D.str)
  | _ => none
theorem RepL.strsMap {K : PySem.W.Frag} {Γ : CM} {S : Hp} : ∀ {xs : List Str}, (∀ x ∈ xs, x.length ≤ sizeLine) → RepL K Γ S (xs.map D.str) (xs.map V.str)
  | [], _ => rfl
  | x :: xs, h => ⟨_, _, rfl, ⟨rfl, h x List.mem_cons_self⟩, RepL.strsMap fun y hy => h y (List.mem_cons_of_mem _ hy)⟩
theorem RepL.strsLen {K : PySem.W.Frag} {Γ : CM} {S : Hp} : ∀ {ds : List D} {vs : List V} {xs : List Str}, RepL K Γ S ds vs → Dl.strsOf ds = some xs → ∀ x ∈ xs, x.length ≤ sizeLine
  | [], _, _, _, e, x, hx => by cases e; cases hx
  | d :: ds, _, _, ⟨v, ws, e0, r, t⟩, e, x, hx => by
    subst e0
    cases d with
    | str y =>
      obtain ⟨ys, e1, rfl⟩ := map_some (show (Dl.strsOf ds).map (y :: ·) = _ from e)
      rcases List.mem_cons.mp hx with rfl | hx
      · exact r.2
      · exact RepL.strsLen t e1 x hx
    | _ => cases e
theorem cd_sortedT {X : Cx} {Γ : CM} {K : PySem.W.Frag} (hK : X.K = K := by rfl) : CD Γ X (.builtin "sorted") (rSortedSA K) opSortedS [.bo] .ow := by
  subst hK
  refine ⟨cr_sortedSA, fun S H ds vs d Q sh r e k => ?_⟩
  match ds, e, r with
  | [.lst es], e, r =>
    obtain ⟨xs, e1, rfl⟩ := map_some (show (strsOf es).map (fun xs => D.lst ((sortS xs).map D.str)) = some d from e)
    obtain ⟨v, rfl, r1⟩ := ArgMs.get1 r
    obtain ⟨p, ws, ev, hp, hl, rl⟩ := r1.lst sh (Same.refl _)
    have ew := rl.strsOf e1
    refine ⟨p, xs, by rw [ev], by rw [← ew]; exact SqL.of hp, fun ys q hperm hle hq => ?_⟩
    have es' : ys = sortS xs := sortS_uniq (hperm.trans (sortS_perm xs).symm) (sorted_pair hle) (sortS_le xs)
    subst es'
    have l1 : xs.length = es.length := by have := rl.length; rw [ew, List.length_map] at this; exact this
    refine k.newL rfl sh (by rw [List.length_map, (sortS_perm xs).length_eq, l1]; exact hl) (RepL.strsMap fun x hx => RepL.strsLen rl e1 x ((sortS_perm xs).mem_iff.mp hx)) hq
end Dl
/-! xs.index(y), texts. -/
namespace Dl
open PySem L2
def opIndex (l y : D) : Option D := match l with
  | .lst ds => match y with
    | .str z => (strsOf ds).bind fun xs => (xs.findIdx? fun x => decide (x = z)).map fun (j : Nat) => D.int (j : Int)
    | _ => none
  | _ => none
def vIndex (fo fe : Ev) : Ev := fun δ => (fo δ).bind fun l => (fe δ).bind fun y => opIndex l y
section
variable {X : Cx} {Γ : CM} {M : List Mode} {o e : Expr} {to te : TE} {fo fe : Ev} {mo me : Mode} {apos cpos : Pos}
theorem de_index (K : PySem.W.Frag) (ho : DE Γ X M o to fo mo) (he : DE Γ X M e te fe me) (hme : okS me = true := by rfl)
    (h1 : attributeBase o "index" X.env (eval o X.env) = eval o X.env := by rfl)
    (h2 : (((backTo cpos (starEach [e] X.env)).all (!·.1)) && ((backToKw cpos (keywordEach [] X.env)).all (·.1.isSome)) && decide (([e].length + ([] : List Keyword).length + if ([] : List Keyword).isEmpty = true then 0 else 1) < 30)) = true := by rfl) (h3 : (apos.endLine == cpos.line) = true := by rfl)
    (h4 : starEach [e] X.env = (false, eval e X.env) :: starEach [] X.env := by rfl) (h5 : (backTo cpos (starEach [] X.env)).any (·.1) = false := by rfl) (hK : X.K = K := by rfl) :
    DE Γ X M (.Call (.Attribute o "index" apos) [e] [] cpos) (tBM K "list" (rIndex K) to (tCons te tNil)) (vIndex fo fe) .sh := by
  subst hK
  refine ⟨pe_bm PySem.F.plainAttrs_list PySem.F.slot_list_index PySem.F.type_list_index mt_index ho.pe (pa_cons he.pe pa_nil h4) h1 h2 h3 h4 h5, fun S0 H0 S H σ δ Q d w ef k => ?_⟩
  obtain ⟨l, e1, e2⟩ := bind_some ef
  obtain ⟨y, e3, e4⟩ := bind_some e2
  cases l with
  | lst ds =>
    cases y with
    | str z =>
      obtain ⟨xs, e5, e6⟩ := bind_some (show (strsOf ds).bind (fun xs => (xs.findIdx? fun x => decide (x = z)).map fun (j : Nat) => D.int (j : Int)) = some d from e4)
      obtain ⟨j, e7, rfl⟩ := map_some e6
      refine ho.snd S0 H0 S H σ δ _ _ w e1 fun v S1 H1 x1 r1 _ => ?_
      have w1 := w.mono x1
      obtain ⟨p, vs, rfl, hp, hl, rl⟩ := r1.lst x1.sh w1.h0
      have ew := rl.strsOf e5
      refine ⟨.inl ⟨rfl, vs, SqL.of hp⟩, ?_⟩
      refine (he.snd.sh hme) S0 H0 S1 H1 σ δ _ _ w1 e3 fun u S2 H2 x2 r2 _ => ?_
      have eu : u = .str z := (r2.str (w1.mono x2).h0).1
      obtain ⟨hj, hz, hno⟩ := List.findIdx?_eq_some_iff_getElem.mp e7
      refine ⟨p, xs.map V.str, .str z, j, .str xs[j], rfl, by rw [eu], by rw [← ew]; exact SqL.of (x2.hh _ _ hp), rfl, ?_, ?_, ?_, fun m z' hm hz' => ?_, ?_⟩
      · rw [List.all_map, List.all_eq_true]; intro x _; rfl
      · rw [List.getElem?_map, List.getElem?_eq_getElem hj]; rfl
      · have := of_decide_eq_true hz
        rw [this]; simp [eqV]
      · rw [List.getElem?_map, List.getElem?_eq_getElem (Nat.lt_trans hm hj)] at hz'
        cases hz'
        have : ¬ (decide (xs[m] = z) = true) := by simpa using hno m hm
        have : ¬ xs[m] = z := by simpa using this
        simp [eqV, this]
      · exact k (.int (j : Int)) S2 H2 (x1.trans x2) rfl fun q => by cases q
    | _ => cases e4
  | _ => cases e4
end
end Dl
/-! != of things of any kind, the empty dict among them. -/
namespace Dl
open PySem L2
def isE0 : D → Bool
  | .dicK [] => true
  | _ => false
def opNeX (a b : D) : Option D := if (isE0 a && isE0 b) = true then some (.bl false) else opNe a b
theorem isE0_eq {a : D} (h : isE0 a = true) : a = .dicK [] := by
  cases a with
  | dicK kvs => cases kvs with
    | nil => rfl
    | cons p r => cases h
  | _ => cases h
theorem od_neX {X : Cx} {Γ : CM} (K : PySem.W.Frag) (hu : X.A.units + 64 < cLine) (hK : X.K = K := by rfl) : OpD Γ X (compareOp .NotEq) (fun x y H Q => rNeP K Γ x y H Q ∨ rNeDA x y H Q) opNeX .sh := by
  subst hK
  refine ⟨opR_or (op_neP hu) (op_ne_dictA (by omega)), fun H0 S H ma mb a b d x y Q sh h0 ra rb e k => ?_⟩
  unfold opNeX at e
  by_cases c : (isE0 a && isE0 b) = true
  · rw [if_pos c] at e
    cases e
    rw [Bool.and_eq_true] at c
    have c1 := isE0_eq c.1
    have c2 := isE0_eq c.2
    subst c1 c2
    obtain ⟨p, vs, rfl, h1, r1⟩ := ra.full sh h0
    obtain ⟨q, ws, rfl, h2, r2⟩ := rb.full sh h0
    have r1 : vs = [] := r1
    have r2 : ws = [] := r2
    subst r1 r2
    exact .inr ⟨p, q, [], [], rfl, rfl, h1, h2, rfl, (fun p hp => by cases hp), k.flat sh rfl⟩
  · rw [if_neg c] at e
    exact .inl ((od_ne hu).snd H0 S H ma mb a b d x y Q sh h0 ra rb e k)
end Dl
set_option maxHeartbeats 1000000
/-! exceptions: what may be raised, calls that may raise, try .. except X as n, defs called in an except suite. -/
namespace Dl
open PySem L2 PyProof.Rows
inductive Res where
  | ok (d : D) | ex (c : Str) (fs : List (Str × D))
abbrev Xv := Env → Option Res
def ResK (K : PySem.W.Frag) (Γ : CM) (H0 S H : Hp) (m : Mode) (Q : VK) (E : XK) : Res → Prop
  | .ok d => Kont K Γ H0 S H m d Q
  | .ex c fs => ∀ cls dd S' H', Ext S H S' H' → RepX K Γ S' H' c fs cls dd → E cls dd H'
def SndX (K : PySem.W.Frag) (Γ : CM) (E : WX) (M : List Mode) (t : TE) (f : Xv) (m : Mode) : Prop :=
  ∀ S0 H0 S H σ δ Q r, Wd K Γ S0 H0 S H σ M δ → f δ = some r → ResK K Γ H0 S H m Q (fun cls dd H' => E cls dd σ H') r → t σ H Q
structure DX (Γ : CM) (X : Cx) (E : WX) (M : List Mode) (e : Expr) (t : TE) (f : Xv) (m : Mode) : Prop where
  pe : PE X e t
  snd : SndX X.K Γ E M t f m
/-- where nothing is raised -/
def okV (f : Xv) : Ev := fun δ => (f δ).bind fun r => match r with | .ok d => some d | .ex _ _ => none
theorem okV_some {f : Xv} {δ : Env} {d : D} (h : okV f δ = some d) : f δ = some (.ok d) := by
  obtain ⟨r, e1, e2⟩ := bind_some h
  cases r with
  | ok x => cases e2; exact e1
  | ex c fs => cases e2
section
variable {X : Cx} {Γ : CM} {E : WX} {rm : Mode} {M M1 M2 : List Mode} {e : Expr} {es : List Expr} {te : TE} {tr : TA} {f : Xv} {fr : Env → Option (List D)} {m : Mode} {st : Stmt} {pos : Pos} {ws : List Nat} {tS : TS} {s : Sv}
theorem DX.toE (h : DX Γ X E M e te f m) : DE Γ X M e te (okV f) m := ⟨h.pe, fun S0 H0 S H σ δ Q d w ef k => h.snd S0 H0 S H σ δ Q (.ok d) w (okV_some ef) k⟩
/-- a statement around an expression that may raise -/
def sX (f : Xv) (s : Sv) : Sv := fun δ => (f δ).bind fun r => match r with | .ok _ => s δ | .ex c fs => some (.ex c fs)
theorem DS.x (hx : DX Γ X E M e te f m) (h : DS Γ X E rm M st tS s M1 ws) (hB : ∀ Dn σ H, (∀ Q, te σ H Q) → tS Dn σ H := by exact fun _ _ _ h => h _) : DS Γ X E rm M st tS (sX f s) M1 ws := ⟨h.ps, fun S0 H0 S H σ δ Dn o w ef k => by
  obtain ⟨r, e1, e2⟩ := bind_some ef
  cases r with
  | ok d => exact h.snd S0 H0 S H σ δ Dn o w e2 k
  | ex c fs =>
    cases e2
    refine hB Dn σ H fun Q => hx.snd S0 H0 S H σ δ Q _ w e1 fun cls dd S' H' x r => ?_
    exact k cls dd S' H' σ x.ss (w.mono x).ext Fr.refl r⟩
theorem DX.sh (h : DX Γ X E M e te f m) (hm : okS m = true := by rfl) : DX Γ X E M e te f .sh := ⟨h.pe, fun S0 H0 S H σ δ Q r w ef k => by
  cases r with
  | ex c fs => exact h.snd S0 H0 S H σ δ Q _ w ef k
  | ok d =>
    have : SndE X.K Γ M te (okV f) .sh := SndE.sh (fun S0 H0 S H σ δ Q d w ef k => h.snd S0 H0 S H σ δ Q (.ok d) w (okV_some ef) k) hm
    exact this S0 H0 S H σ δ Q d w (by unfold okV; rw [ef]; rfl) k⟩
theorem ds_exprX (he : DX Γ X E M e te f m) (hs : swapsWith e none pos.line X.env = pure false := by rfl) : DS Γ X E rm M (.Expr e pos) (tDrop te) (sX f (sExpr (okV f))) M [] := DS.x he (ds_expr he.toE hs)
theorem ds_retX (he : DX Γ X E M e te f rm) : DS Γ X E rm M (.Return (some e) pos) (tRet te) (sX f (sRet (okV f))) M1 [] := DS.x he (ds_ret he.toE)
theorem ds_setX {i : Nat} {x : Str} {pos' : Pos} (hN : X.N.Nodup) (he : DX Γ X E M e te f m) (hM : M.set i m = M1 := by rfl) (hi : X.N[i]? = some x := by rfl) (hx : Loc X.env.scope x := by first | exact Or.inl rfl | exact Or.inr rfl) (hl : i < M.length := by decide) (hm : okS m = true ∨ m = .bo := by first | exact Or.inl rfl | exact Or.inr rfl) (hs : swapsWith e (some (.Name x pos')) pos.line X.env = pure false := by rfl) (hf : X.fn x = true ∨ X.env.scope.names.lookup x = some .local := by first | exact .inl rfl | exact .inr rfl | assumption) :
    DS Γ X E rm M (.Assign [.Name x pos'] e pos) (tAsg te (gName i)) (sX f (sSet i (okV f))) M1 [i] := DS.x he (ds_set hN he.toE hM hi hx hl hm hs hf)
/-! ### calls that may raise -/
def spX (K : PySem.W.Frag) (Γ : CM) (pm : List Mode) (rm : Mode) (den : List D → Option Res) : Sp := fun vs H Q E =>
  ∃ S ds r, Same S H ∧ ArgMs K Γ S H pm ds vs ∧ den ds = some r ∧ ResK K Γ H S H rm Q E r
def xC1 (den : List D → Option Res) (f : Env → Option (List D)) : Xv := fun δ => (f δ).bind den
theorem ResK.up {K : PySem.W.Frag} {S H S1 H1 H2 : Hp} {Q : VK} {E : XK} {r : Res} (k : ResK K Γ H2 S H m Q E r) (x : Ext S H S1 H1) (hm : okS m = true) : ResK K Γ H1 S1 H1 m Q E r := by
  cases r with
  | ok d => exact (Kont.ext k x).h0 hm
  | ex c fs => exact fun cls dd S' H' x' r => k cls dd S' H' (x.trans x') r
theorem dx_callD {x qual : Str} {st : Stmt} {ps : List Str} {k : Nat} {p : Pos} {pm : List Mode} {den : List D → Option Res} (T : Dfn X.K X.mg x qual st ps) (F : FnOk X.prog X.w X.K X.mg X.base (L2.CX X.prog X.w) k T.f T.fd ps (spX X.K Γ pm m den)) (hr : Room k X.A) (tk : Takes X E)
    (ha : DAr Γ X M (e :: es) tr fr pm) (hg : Gl X x := by rfl) (hm : okS m = true := by rfl) (h2 : (x == ("__debug__" : Str)) = false := by decide) (h3 : starEach (e :: es) X.env = (false, eval e X.env) :: starEach es X.env := by rfl) (h4 : (backTo pos (starEach es X.env)).any (·.1) = false := by rfl) :
    DX Γ X E M (.Call (.Name x p) (e :: es) [] pos) (tCallS (spX X.K Γ pm m den) (WE E) tr) (xC1 den fr) m :=
  ⟨pe_callS F hr hg T.gl T.fn.kp T.bd (fun σ => passAt tk σ) ha.pa h2 h3 h4, fun S0 H0 S H σ δ Q r w ef k => by
    obtain ⟨ds, e1, e2⟩ := bind_some ef
    refine ha.snd S0 H0 S H σ δ _ ds w e1 fun vs S1 H1 x1 r1 => ?_
    exact ⟨S1, ds, r, x1.sh, r1, e2, k.up x1 hm⟩⟩
theorem dx_callDK (K : PySem.W.Frag) {mg : Str → Option Value} {x qual : Str} {st : Stmt} {ps : List Str} {k : Nat} {p : Pos} {pm : List Mode} {den : List D → Option Res} (T : Dfn K mg x qual st ps) (F : FnOk X.prog X.w K mg X.base (L2.CX X.prog X.w) k T.f T.fd ps (spX K Γ pm m den)) (hr : Room k X.A) (tk : Takes X E)
    (ha : DAr Γ X M (e :: es) tr fr pm) (hg : Gl X x := by rfl) (hm : okS m = true := by rfl) (h2 : (x == ("__debug__" : Str)) = false := by decide) (h3 : starEach (e :: es) X.env = (false, eval e X.env) :: starEach es X.env := by rfl) (h4 : (backTo pos (starEach es X.env)).any (·.1) = false := by rfl) (hK : X.K = K := by rfl) (hmg : X.mg = mg := by rfl) :
    DX Γ X E M (.Call (.Name x p) (e :: es) [] pos) (tCallS (spX K Γ pm m den) (WE E) tr) (xC1 den fr) m := by subst hK hmg; exact dx_callD T F hr tk ha hg hm h2 h3 h4
/-! ### raise -/
structure ExcF (K : PySem.W.Frag) (mg : Str → Option Value) (x : Str) (C : Addr) : Prop where
  gl : mg x = some (.ref C)
  ex : PySem.W.excIn K C [.type "ValueError", .type "Exception", .type "BaseException", .type "object"] "ValueError.__new__" = true
  kp : PySem.W.keepIn K (.ref C) = true
  bs : PySem.W.subIn K (.ref C) (.type "BaseException") = some true
  ty : PySem.W.typeIn K (.ref C) = some (.type "type")
def sRaise (c : Str) : Sv := fun _ => some (.ex c [])
theorem ds_raise {x msg : Str} {C : Addr} {j : Nat} {p p2 pos' : Pos} (T : ExcF X.K X.mg x C) (hΓ : Γ x = some C) (tk : Takes X E) (hc : X.calm = true := by rfl) (hg : Gl X x := by rfl) (hdb : (x == ("__debug__" : Str)) = false := by decide) :
    DS Γ X E rm M (.Raise (some (.Call (.Name x p) [.Constant (.str msg) j p2] [] pos')) none pos) (fun _ σ H => E (.ref C) none σ H) (sRaise x) M1 [] :=
  ⟨ps_raise hc tk (pmk_own PySem.F.excBase_ValueError T.ex T.gl T.kp (raises_own T.bs T.ty) hg hdb), fun S0 H0 S H σ δ Dn o w ef k => by
    cases ef
    exact k (.ref C) none S H σ (Same.refl _) w.ext Fr.refl ⟨C, hΓ, rfl, .inl ⟨rfl, rfl⟩⟩⟩
end
/-! ### a def that may raise -/
def denX (n np : Nat) (rm : Mode) (s : Sv) : List D → Option Res := fun ds => if ds.length = np then (s (ds.map some ++ List.replicate (n - np) none)).bind fun o => match o with
  | .rt d => some (.ok d)
  | .nx _ => if rm = .sh then some (.ok .non) else none
  | .ex c fs => some (.ex c fs)
  else none
section
variable {P : Program} {w : World} {K : PySem.W.Frag} {mg : Str → Option Value} {base : Heap} {Γ : CM}
theorem fn_okX {x qual : Str} {st : Stmt} {f : Addr} {fd : FuncData} {N ps : List Str} {k : Nat} {pm : List Mode} {rm : Mode} {s : Sv} {M' : List Mode} (F : Fun K x qual st f fd) (S : FnScope N ps (defScope st)) (hl : pm.length = ps.length) (hp : pm.all (fun m => m == .sh || m == .bo) = true) {M0 : List Mode} (hM : initM N.length pm = M0) {n np : Nat} (hn : N.length = n) (hnp : ps.length = np)
    (hbody : ∀ (cdv : Value) (A : Around) (outer : List PySem.Env) (s0 : Shared) (H : Hp) (E : XK), Room k (A.deeper (PyProof.Rows.envOfC qual (defScope st) s0.heap.objs.size f cdv)) →
      ∃ t ws, DSs Γ (cxOf (L2.CX P w) P w K mg base N qual (defScope st) f cdv A outer s0 H E) (fun cls d _ H' => E cls d H') rm M0 (defBody st) t s M' ws) : FnOk P w K mg base (L2.CX P w) (k + 1) f fd ps (spX K Γ pm rm (denX n np rm s)) := by
  subst hM hn hnp
  refine F.okX S (fun vs H Q E h => ?_) (fun cdv A outer s0 H vs Q E hr h => ?_)
  · obtain ⟨S1, ds, r, _, ra, _⟩ := h
    rw [ra.len.1, hl]
  · obtain ⟨S1, ds, r, sh, ra, ed, kk⟩ := h
    obtain ⟨t, ws, hb⟩ := hbody cdv A outer s0 H E hr
    refine ⟨t, hb.pss, ?_⟩
    unfold denX at ed
    have hds : ds.length = ps.length := ra.len.2.trans hl
    rw [if_pos hds] at ed
    obtain ⟨o, e1, e2⟩ := bind_some ed
    rw [← hl] at e1
    refine hb.snd S1 H S1 H _ _ _ o (Wd.begin sh ra hp) e1 ?_
    cases o with
    | nx δ =>
      have e2 : (if rm = .sh then some (Res.ok D.non) else none) = some r := e2
      obtain ⟨c, rfl⟩ := ite_some e2
      subst c
      exact fun S2 H2 σ2 s2 w2 _ => kk .non S2 H2 w2.ext rfl fun z => by cases z
    | rt d =>
      cases e2
      exact fun v S2 H2 x2 r2 fr => kk v S2 H2 x2 (by cases rm <;> first | exact r2 | exact r2) fr
    | ex c fs =>
      cases e2
      exact fun cls dd S2 H2 σ2 s2 x2 _ rx => kk cls dd S2 H2 x2 rx
theorem takesX {qual : Str} {scope : Scope} {N : List Str} {f : Addr} {cdv : Value} {A : Around} {outer : List PySem.Env} {s0 : Shared} {H : Hp} {E : XK} : Takes (cxOf (L2.CX P w) P w K mg base N qual scope f cdv A outer s0 H E) (fun cls d _ H' => E cls d H') := takes_of rfl rfl rfl rfl
theorem ownX {qual : Str} {scope : Scope} {N : List Str} {f : Addr} {cdv : Value} {A : Around} {outer : List PySem.Env} {s0 : Shared} {H : Hp} {E : XK} : PassesOwn (model P w) (cxOf (L2.CX P w) P w K mg base N qual scope f cdv A outer s0 H E).A (cxOf (L2.CX P w) P w K mg base N qual scope f cdv A outer s0 H E).env (cxOf (L2.CX P w) P w K mg base N qual scope f cdv A outer s0 H E).xe := passes_of rfl
end
/-! ### try: body, except X as n: suite -/
open Classical in
/-- a suite's outcome, whatever the exception's address is -/
noncomputable def allA (g : Addr → Option Out) : Option Out := if ∀ a, g a = g 0 then g 0 else none
theorem allA_some {g : Addr → Option Out} {o : Out} (h : allA g = some o) (a : Addr) : g a = some o := by
  unfold allA at h
  split at h
  · rename_i q; rw [q a]; exact h
  · cases h
theorem allA_of {g : Addr → Option Out} {o : Option Out} (h : ∀ a, g a = o) : allA g = o := by
  unfold allA
  rw [if_pos (fun a => (h a).trans (h 0).symm)]
  exact h 0
def goneO (i : Nat) : Out → Option Out
  | .nx δ => some (.nx (δ.set i none))
  | .rt d => some (.rt d)
  | .ex _ _ => none
noncomputable def sTryAs (i : Nat) (ct : Str → Option Bool) (ws : List Nat) (sb : Sv) (ss : Addr → Str → Sv) : Sv := fun δ => (sb δ).bind fun o => match o with
  | .ex c fs => if fs.isEmpty = true then (ct c).bind fun b => if b = true then (allA fun a => (ss a c ((wipeE δ ws).set i (some (.exc a c)))).bind (goneO i)) else some (.ex c fs) else none
  | o => some o
theorem pss_of {X : Cx} {st : List Stmt} {t : TS} (h : ∀ D σ H, t D σ H → ∃ t', PSs X st t' ∧ t' D σ H) : PSs X st t := ⟨fun pins s σ H D I q => by
  obtain ⟨t', h1, h2⟩ := h D σ H q
  exact h1.run pins s σ H D I h2⟩
section
variable {X : Cx} {Γ : CM} {E : WX} {rm : Mode} {M M1 : List Mode} {n x : Str} {i : Nat} {body suite : List Stmt} {b₀ : Stmt} {np pos pos' : Pos} {tb : WX → TS} {sb : Sv} {ss : Addr → Str → Sv} {wb ws wu wr : List Nat} {Cc : Addr} {ct : Str → Option Bool}
/-- behind an exception: the slots that the body does not write, but the owned ones -/
theorem Wd.after {K : PySem.W.Frag} {S0 H0 S H S' H' : Hp} {σ σ' : L2.St} {δ : Env} (w : Wd K Γ S0 H0 S H σ M δ) (ss : Same S S') (x : Ext S0 H0 S' H') (fr : Fr wb σ σ') (hw : ∀ j ∈ wb, j ∈ ws) (ho : ∀ j, md M j = .ow → j ∈ ws) : Wd K Γ S0 H0 S' H' σ' M (wipeE δ ws) := by
  have own : ∀ j d, (wipeE δ ws)[j]? = some (some d) → md M j ≠ .ow := fun j d h z => (wipeE_some h).2 (ho j z)
  refine ⟨x, by rw [wipeE_len, fr.1, w.len], fun j d h => ?_, fun j d a h m => (own j d h m).elim, fun j j' d d' a h h' m => (own j d h m).elim, w.nord⟩
  obtain ⟨h1, h2⟩ := wipeE_some h
  obtain ⟨v, hv, r⟩ := w.slot j d h1
  refine ⟨v, (fr.2 j fun z => h2 (hw j z)).trans hv, ?_⟩
  have no := own j d h
  have nr := w.nord j
  generalize md M j = mm at r no nr
  cases mm with
  | sh => exact Rep.mono ss r
  | bo =>
    rcases r with r | ⟨a, ev, t⟩
    · exact .inl (Rep.mono ss r)
    · exact .inr ⟨a, ev, t.mono ss fun _ q => q⟩
  | rd => exact (nr rfl).elim
  | ow => exact (no rfl).elim
theorem ds_tryAs (hN : X.N.Nodup) (hc : Names X x (.ref Cc)) (tk : Takes X E)
    (hct : ∀ c b C, ct c = some b → Γ c = some C → PySem.W.exmOne X.K (.ref C) (.ref Cc) = some b)
    (hb : ∀ (W : WX) (pn : List (Addr × Obj)) (xe : Value → Shared → Prop), Takes (X.tr pn xe) W → PassesOwn (model X.prog X.w) X.A X.env xe → DSs Γ (X.tr pn xe) W rm M body (tb W) sb M1 wb)
    (hsu : ∀ (a : Addr) (oe : Obj) (c : Str) (C : Addr) (pn : List (Addr × Obj)), Γ c = some C → ct c = some true → Zc (.ref C) none oe → (∃ vs, oe.data = .fields vs) → ∃ t, DSs Γ (X.suite a ((a, oe) :: pn)) W0 rm (M.set i .sh) (b₀ :: suite) t (ss a c) M1 wu)
    (hw : ∀ j ∈ wb, j ∈ ws) (ho : ∀ j, md M j = .ow → j ∈ ws) (hl : i < M.length) (hr : ∀ j, j ∈ wb ∨ j ∈ wu ∨ j = i → j ∈ wr) (hi1 : md M1 i ≠ .ow)
    (hi : X.N[i]? = some n := by rfl) (hs : X.stack = X.env :: X.outer := by rfl) (hex : X.ex = [] := by rfl) (hf : X.env.frame = some X.env.locals := by rfl) (hln : X.env.kindOf n = some .local := by rfl) :
    DS Γ X E rm M (.Try body [.ExceptHandler (some (.Name x np)) (some n) (b₀ :: suite) pos'] [] [] pos)
      (fun D σ H => tb (wAs X.K (.ref Cc) i (fun a cls d D σ H => ∀ oe pn, Zc cls d oe → (∃ vs, oe.data = .fields vs) → ∃ t, PSs (X.suite a ((a, oe) :: pn)) (b₀ :: suite) t ∧ t D σ H) E D) D σ H)
      (sTryAs i ct ws sb ss) M1 wr :=
  ⟨ps_try_as hs hf hN hi hln hc tk (fun W pn xe t p => (hb W pn xe t p).pss) (fun a oe cls d pn hz hfl => pss_of fun D σ H q => q oe pn hz hfl), fun S0 H0 S H σ δ Dn o w ef k => by
    obtain ⟨o1, e1, e2⟩ := bind_some ef
    have tk0 : ∀ W : WX, Takes (X.tr [] (fun e s' => wpAny (model X.prog X.w) X.A (leaving X.env e) (fun _ s'' => L2.CX X.prog X.w X.outer X.H_0 X.s_0 (fun _ _ _ => True) e s'') (fun _ _ => True) s')) W := fun W =>
      (takes_of (X := X.tr [] (fun e s' => wpAny (model X.prog X.w) X.A (leaving X.env e) (fun _ s'' => L2.CX X.prog X.w X.outer X.H_0 X.s_0 (fun _ _ _ => True) e s'') (fun _ _ => True) s')) (E := fun _ _ _ => True) (E₁ := fun _ _ => True) hs hf hex rfl).imp fun _ _ _ _ _ => trivial
    refine (hb _ [] _ (tk0 _) PassesOwn.leaving).snd S0 H0 S H σ δ Dn o1 w e1 ?_
    cases o1 with
    | nx δ1 =>
      cases e2
      exact fun S1 H1 σ1 s1 w1 f1 => k S1 H1 σ1 s1 w1 (f1.up fun j z => hr j (.inl z))
    | rt d => cases e2; exact k
    | ex c fs =>
      have e2 : (if fs.isEmpty = true then (ct c).bind fun b => if b = true then (allA fun a => (ss a c ((wipeE δ ws).set i (some (.exc a c)))).bind (goneO i)) else some (.ex c fs) else none) = some o := e2
      by_cases hfs : fs.isEmpty = true
      · rw [if_pos hfs] at e2
        have efs : fs = [] := List.isEmpty_iff.mp hfs
        subst efs
        obtain ⟨b, e3, e4⟩ := bind_some e2
        intro cls dd S1 H1 σ1 s1 x1 f1 rx
        obtain ⟨C, hC, rfl, rx2⟩ := rx
        refine ⟨b, hct c b C e3 hC, fun hbt a na => ?_, fun hbf => ?_⟩
        · subst hbt
          rw [if_pos rfl] at e4
          obtain ⟨o2, e5, e6⟩ := bind_some (allA_some e4 a)
          intro oe pn hz hfl
          have hdd : dd = none := by
            rcases rx2 with ⟨_, h⟩ | ⟨h1, _⟩
            · exact h
            · exact (h1 rfl).elim
          subst hdd
          obtain ⟨t, ht⟩ := hsu a oe c C pn hC e3 hz hfl
          refine ⟨t, ht.pss, ht.snd S0 H0 S1 H1 _ _ _ o2 ((w.after s1 x1 f1 hw ho).store hl (.inl rfl) (show RepM X.K Γ H0 S1 H1 .sh (.exc a c) (.ref a) from (rfl : V.ref a = .ref a)) (fun z => by cases z) fun z => by cases z) e5 ?_⟩
          cases o2 with
          | nx δ2 =>
            cases e6
            refine fun S3 H3 σ3 s3 w3 f3 => k S3 H3 (σ3.set i none) (s1.trans s3) (w3.wipe [i]) ?_
            refine ((f1.trans (Fr.set (i := i))).trans (f3.trans (Fr.set (i := i)))).up fun j hj => ?_
            simp only [List.mem_append, List.mem_singleton] at hj
            rcases hj with (hj | hj) | (hj | hj)
            · exact hr j (.inl hj)
            · exact hr j (.inr (.inr hj))
            · exact hr j (.inr (.inl hj))
            · exact hr j (.inr (.inr hj))
          | rt d => cases e6; exact k
          | ex c fs => cases e6
        · subst hbf
          rw [if_neg Bool.false_ne_true] at e4
          cases e4
          exact k (.ref C) dd S1 H1 σ1 s1 x1 (f1.up fun j z => hr j (.inl z)) ⟨C, hC, rfl, rx2⟩
      · rw [if_neg hfs] at e2; cases e2⟩
end
end Dl
set_option maxHeartbeats 1000000
/-! defs called in an except suite, with the exception as an argument; isinstance of it. -/
namespace Dl
open PySem L2 PyProof.Rows
/-- what a def promises where an exception of class C at pin is handled -/
structure FnE (P : Program) (w : World) (K : PySem.W.Frag) (mg : Str → Option Value) (base : Heap) (pin C : Addr) (k : Nat) (f : Addr) (fd : FuncData) (ps : List Str) (sp : Sp) : Prop where
  len : ∀ vs H Q E, sp vs H Q E → vs.length = ps.length
  run : ∀ (A : Around) (outer : List PySem.Env) (s : Shared) (H : Hp) (args : Args) (us : List Value) (vs : List V) (Q : VK) (E : XK) (oe : Obj), Zc (.ref C) none oe → (∃ vs, oe.data = .fields vs) → L2H.RoomH k A → L2H.PinOk outer H s (pin, oe) → Env0 P w K mg base A outer s H → BindsTo s fd args (ps.zip us) → Vals vs us → sp vs H Q E →
    codeAny (model P w) A (.call (.ref f) args) (CR CX0 outer P w H s Q E) s
theorem fn_ofE {P : Program} {w : World} {K : PySem.W.Frag} {mg : Str → Option Value} {base : Heap} {pin C : Addr} {k : Nat} {f : Addr} {name qual : Str} {params : Arguments} {body : List Stmt} {scope : Scope} {dV kV doc pm cdv ct oc : Value} {an od : Option Addr}
    {osl : Array (Option Value)} {N ps : List Str} {sp : Sp} (lk : K.lookup f = some ⟨oc, od, .func (PySem.W.fnOf name qual params body scope dV kV doc pm an cdv ct), osl⟩) (hcd : PySem.W.codeIn K cdv qual = true) (S : FnScope N ps scope)
    (len : ∀ vs H Q E, sp vs H Q E → vs.length = ps.length)
    (hbody : ∀ (A : Around) (outer : List PySem.Env) (s : Shared) (H : Hp) (vs : List V) (Q : VK) (E : XK) (oe : Obj), Zc (.ref C) none oe → (∃ vs, oe.data = .fields vs) → L2H.RoomH k (A.deeper (envOfC qual scope s.heap.objs.size f cdv)) → sp vs H Q E →
      ∃ t, PSs (L2H.cxH CX0 P w K mg base N qual scope f cdv A outer s H E (pin, oe)) body t ∧ t { nx := fun _ H' => Q .non H', rt := Q } (L2.start N vs) H) :
    FnE P w K mg base pin C (k + 1) f (PySem.W.fnOf name qual params body scope dV kV doc pm an cdv ct) ps sp := by
  refine ⟨len, fun A outer s H args us vs Q E oe hz hf hr hpin e0 hb r hsp => ?_⟩
  have hl := len _ _ _ _ hsp
  have KX : K.In s.heap := e0.mod.kin.keeps fun b o e => (e0.bs b o e).1
  have lim : s.heap.NoLimit := e0.mod.nolimit.keeps fun b o e => (e0.bs b o e).1
  have hkind : ∀ y ∈ ps.zip us, scope.names.lookup y.1 = some .local ∨ (scope.names.lookup y.1 = some .cell ∧ ((cellsFrom (s.heap.objs.size + 1) scope.names []).lookup y.1).isSome = true) := fun ⟨n, v⟩ hy => by
    rcases S.par n (List.of_mem_zip hy).1 with q | q
    · exact .inl q
    · exact .inr ⟨q, PySem.W.cellsFrom_some _ _ _ (.inl q)⟩
  refine codeAny_call_function hr.depth (KX _ _ lk) rfl S.co S.gen rfl (PySem.W.codeRec_of KX hcd) (hb _ _ _ _ ?_)
  refine wpAny_newFunctionEnv_cells S.kind hkind fun env he s1 x => ?_
  subst he
  refine ⟨lim.keeps x.toInCall.keep, codeAny_func ?_⟩
  obtain ⟨t, ht, hq⟩ := hbody A outer s H vs Q E oe hz hf (hr.deeper _) hsp
  have I : Inv (L2H.cxH CX0 P w K mg base N qual scope f cdv A outer s H E (pin, oe)) [] (L2.start N vs) H s1 := L2H.inv_startH S hpin e0 hl r x
  refine wpAny_mono (ht.run [] s1 (L2.start N vs) H _ I hq) (fun fl s' hs => ?_) fun e s' hs => hs
  have fin : ∀ {σ' : L2.St} {H' : Hp} {v : V} {u : Value}, Inv (L2H.cxH CX0 P w K mg base N qual scope f cdv A outer s H E (pin, oe)) [] σ' H' s' → RelV v u → Q v H' → CE outer P w H s Q u s' :=
    fun {σ' H' v u} J rv q => ⟨v, H', J.os, J.bare, J.base, J.hok, rv, q⟩
  cases fl with
  | ret u =>
    obtain ⟨v, σ', H', J, rv, q⟩ := hs
    exact fin J rv q
  | next =>
    obtain ⟨σ', H', J, q⟩ := hs
    exact fin (v := V.non) (u := Value.none) J rfl q
  | brk =>
    obtain ⟨_, _, _, q⟩ := hs
    exact False.elim q
  | cont =>
    obtain ⟨_, _, _, q⟩ := hs
    exact False.elim q
section
variable {X : Cx} {pin C : Addr} {oe : Obj} {k : Nat} {f : Addr} {fd : FuncData} {ps : List Str} {sp : Sp} {x : Str} {q pos : Pos} {e : Expr} {es : List Expr} {t : TA}
theorem run_fnE {pins : List (Addr × Obj)} {σ : L2.St} {H : Hp} {s : Shared} {Q : VK} {us : List Value} {vs : List V} (F : FnE X.prog X.w X.K X.mg X.base pin C k f fd ps sp) (hz : Zc (.ref C) none oe) (hf : ∃ vs, oe.data = .fields vs) (hm : (pin, oe) ∈ X.pn) (hr : L2H.RoomH k X.A) (hb : Binds X.K fd ps [])
    (I : Inv X pins σ H s) (r : Vals vs us) (h : sp vs H Q E0) : wpAny (model X.prog X.w) X.A (call (.ref f) us) (EP X pins σ Q) X.xe s := by
  have hl : us.length = ps.length := by rw [← r.length]; exact F.len _ _ _ _ h
  have b := hb s us I.kIn (by rw [List.append_nil]; exact hl)
  rw [List.append_nil] at b
  have P1 := I.pin (pin, oe) (List.mem_append_left _ hm)
  have hpin : L2H.PinOk X.stack H s (pin, oe) := ⟨P1.1, P1.2.1, fun hm => (List.mem_cons.mp (I.stkSub pin hm)).elim P1.2.2.1 P1.2.2.2.1, P1.2.2.2.2⟩
  refine wpAny_call (codeAny_mono (F.run X.A X.stack s H ⟨us, []⟩ us vs Q E0 oe hz hf hr hpin I.env0 b r h) fun r s' hq => ?_)
  cases r with
  | error e => exact False.elim hq
  | ok fl =>
    cases fl with
    | ret u => exact I.after hq
    | next => exact False.elim hq
    | brk => exact False.elim hq
    | cont => exact False.elim hq
theorem pe_callE (F : FnE X.prog X.w X.K X.mg X.base pin C k f fd ps sp) (hz : Zc (.ref C) none oe) (hf : ∃ vs, oe.data = .fields vs) (hm : (pin, oe) ∈ X.pn) (hr : L2H.RoomH k X.A) (hg : Gl X x) (hx : X.mg x = some (.ref f)) (hk : PySem.W.keepIn X.K (.ref f) = true) (hb : Binds X.K fd ps [])
    (ha : PA X (e :: es) t) (hdb : (x == ("__debug__" : Str)) = false := by decide) (he : starEach (e :: es) X.env = (false, eval e X.env) :: starEach es X.env := by rfl) (hpl : (backTo pos (starEach es X.env)).any (·.1) = false := by rfl) :
    PE X (.Call (.Name x q) (e :: es) [] pos) (tCall sp [] E0 t) := by
  refine ⟨fun pins s σ H Q I h => ?_⟩
  refine wpAny_Call_Name_kw (ld_glob I hg hx ?_ hdb)
  refine PySem.W.callWith_K (h₀ := X.base) I.ok.mod.kin hk (thn (ha.run pos pins s σ H _ I h) fun us s1 ⟨vs, H1, I1, r, q⟩ => ⟨I1.kIn, ?_⟩) he hpl
  have q' : sp (vs ++ []) H1 Q E0 := q
  rw [List.append_nil] at q'
  exact run_fnE F hz hf hm hr hb I1 r q'
end
/-! ### as a def of ours -/
section
variable {P : Program} {w : World} {K : PySem.W.Frag} {mg : Str → Option Value} {base : Heap} {Γ : CM}
theorem fn_okE {x qual : Str} {st : Stmt} {f : Addr} {fd : FuncData} {N ps : List Str} {k : Nat} {pm : List Mode} {rm : Mode} {s : Sv} {M' : List Mode} {pin C : Addr} (F : Fun K x qual st f fd) (S : FnScope N ps (defScope st)) (hl : pm.length = ps.length) (hp : pm.all (fun m => m == .sh || m == .bo) = true) {M0 : List Mode} (hM : initM N.length pm = M0) {n np : Nat} (hn : N.length = n) (hnp : ps.length = np)
    (hbody : ∀ (cdv : Value) (A : Around) (outer : List PySem.Env) (s0 : Shared) (H : Hp) (E : XK) (oe : Obj), Zc (.ref C) none oe → (∃ vs, oe.data = .fields vs) → L2H.RoomH k (A.deeper (PyProof.Rows.envOfC qual (defScope st) s0.heap.objs.size f cdv)) →
      ∃ t ws, DSs Γ (L2H.cxH CX0 P w K mg base N qual (defScope st) f cdv A outer s0 H E (pin, oe)).nox W0 rm M0 (defBody st) t s M' ws) : FnE P w K mg base pin C (k + 1) f fd ps (spD K Γ pm rm (denOf n np rm s)) := by
  subst hM hn hnp
  obtain ⟨oc, od, kV, doc, pmv, an, cdv, ct, osl, rfl, lk, hcd⟩ := F.ex
  refine fn_ofE lk hcd S (fun vs H Q E h => ?_) (fun A outer s0 H vs Q E oe hz hf hr h => ?_)
  · obtain ⟨S1, ds, r, _, ra, _⟩ := h
    rw [ra.len.1, hl]
  · obtain ⟨S1, ds, r, sh, ra, ed, kk⟩ := h
    obtain ⟨t, ws, hb⟩ := hbody cdv A outer s0 H E oe hz hf hr
    refine ⟨t, hb.pss.nox, ?_⟩
    unfold denOf at ed
    have hds : ds.length = ps.length := ra.len.2.trans hl
    rw [if_pos hds] at ed
    obtain ⟨o, e1, e2⟩ := bind_some ed
    rw [← hl] at e1
    refine hb.snd S1 H S1 H _ _ _ o (Wd.begin sh ra hp) e1 ?_
    cases o with
    | nx δ =>
      have e2 : (if rm = .sh then some D.non else none) = some r := e2
      obtain ⟨c, rfl⟩ := ite_some e2
      subst c
      exact fun S2 H2 σ2 s2 w2 _ => kk .non S2 H2 w2.ext rfl fun z => by cases z
    | rt d =>
      cases e2
      exact fun v S2 H2 x2 r2 fr => kk v S2 H2 x2 (by cases rm <;> first | exact r2 | exact r2) fr
    | ex c fs => cases e2
end
theorem roomE {k : Nat} {A : Around} {h : Option Value} (r : L2H.RoomH k A) : L2H.RoomH k (A.mark h) := ⟨r.dp, r.un⟩
theorem RoomE.units {k : Nat} {A : Around} (r : L2H.RoomH k A) : A.units + 64 < cLine := by have := r.un; omega
section
variable {X : Cx} {Γ : CM} {M : List Mode} {e : Expr} {es : List Expr} {tr : TA} {fr : Env → Option (List D)} {m : Mode} {pos : Pos} {pin C : Addr} {oe : Obj}
theorem de_callE (K : PySem.W.Frag) {mg : Str → Option Value} {x qual : Str} {st : Stmt} {ps : List Str} {k : Nat} {p : Pos} {pm : List Mode} {den : List D → Option D} (hz : Zc (.ref C) none oe) (hf : ∃ vs, oe.data = .fields vs) (T : Dfn K mg x qual st ps) (F : FnE X.prog X.w K mg X.base pin C k T.f T.fd ps (spD K Γ pm m den)) (hr : L2H.RoomH k X.A)
    (ha : DAr Γ X M (e :: es) tr fr pm) (hpn : (pin, oe) ∈ X.pn := by exact List.mem_cons_self) (hg : Gl X x := by rfl) (hm : okS m = true := by rfl) (h2 : (x == ("__debug__" : Str)) = false := by decide) (h3 : starEach (e :: es) X.env = (false, eval e X.env) :: starEach es X.env := by rfl) (h4 : (backTo pos (starEach es X.env)).any (·.1) = false := by rfl) (hK : X.K = K := by rfl) (hmg : X.mg = mg := by rfl) :
    DE Γ X M (.Call (.Name x p) (e :: es) [] pos) (tCall (spD K Γ pm m den) [] E0 tr) (vC1 den fr) m := by
  subst hK hmg
  exact ⟨pe_callE F hz hf hpn hr hg T.gl T.fn.kp T.bd ha.pa h2 h3 h4, snd_call hm ha.snd⟩
end
/-! ### isinstance of the exception -/
theorem call_isEx {X : Cx} {a D : Addr} {oe : Obj} (C : ExcC X.K D) (hz : Zc (.ref D) none oe) (hf : ∃ vs, oe.data = .fields vs) (hm : (a, oe) ∈ X.pn) : CallR X (.builtin "isinstance") (rIsE X.K D a) := by
  intro pins s σ H xs us Q I r h
  obtain ⟨c, cv, b, rfl, hcv, e, q⟩ := h
  cases r with
  | cons rx rr =>
    cases rr with
    | cons rt rr =>
      cases rr
      cases rx
      have ec := hcv _ rt
      subst ec
      obtain ⟨hget, _⟩ := I.pin (a, oe) (List.mem_append.mpr (.inl hm))
      obtain ⟨vs, hv⟩ := hf
      have J : PySem.W.InstAt s.heap a oe D none := by
        obtain ⟨oc, od, oda, osl⟩ := oe
        obtain ⟨h1, h2⟩ := hz
        dsimp only at h1 h2 hv
        subst h1 h2 hv
        exact ⟨hget, rfl, rfl, trivial⟩
      exact PySem.W.kia_one (PySem.W.handS_kitx_exc C.hg C.hk C.hs C.hd C.ha C.hn C.ht C.hm) I.kIn J e (fun z => nomatch z) fun tk => ⟨.bl b, H, I.kept (t' := tk) fun _ _ z => z, rfl, q⟩
/-- is one class of these under another one -/
def subX (c n : Str) : Bool := decide (n = c) || decide (n = "PlayError")
def opIsE (pin : Addr) (c : Str) : List D → Option D
  | [.exc a c', .cls n] => if a = pin ∧ c' = c ∧ n ∈ excN then some (.bl (subX c n)) else none
  | [.exc a c', .ty n] => if a = pin ∧ c' = c ∧ n = "ValueError" then some (.bl true) else none
  | _ => none
structure ExcI (K : PySem.W.Frag) (Γ : CM) (c : Str) (C : Addr) : Prop where
  cc : ExcC K C
  ki : ∀ n Cn, Γ n = some Cn → n ∈ excN → PySem.W.kitOne K (.ref C) (.ref Cn) = some (subX c n)
  kv : PySem.W.kitOne K (.ref C) (.type "ValueError") = some true
theorem cd_isE (K : PySem.W.Frag) {X : Cx} {Γ : CM} {pin C : Addr} {oe : Obj} {c : Str} (T : ExcI K Γ c C) (hz : Zc (.ref C) none oe) (hf : ∃ vs, oe.data = .fields vs) (hm : (pin, oe) ∈ X.pn := by exact List.mem_cons_self) (hK : X.K = K := by rfl) : CD Γ X (.builtin "isinstance") (rIsE K C pin) (opIsE pin c) [.bo, .sh] .sh := by
  subst hK
  refine ⟨call_isEx T.cc hz hf hm, fun S H ds vs d Q sh r e k => ?_⟩
  match ds, e, r with
  | [.exc a c', .cls n], e, r =>
    have e : (if a = pin ∧ c' = c ∧ n ∈ excN then some (D.bl (subX c n)) else none) = some d := e
    obtain ⟨⟨rfl, rfl, hn⟩, rfl⟩ := ite_some e
    obtain ⟨v, v2, rfl, r1, r2⟩ := ArgMs.get2 r
    have e1 : v = .ref a := r1.flat (Same.refl _) fun _ _ t => t
    have e2 : ∃ Cn, Γ n = some Cn ∧ v2 = .ref Cn := r2.flat (Same.refl _) fun _ _ t => t
    obtain ⟨Cn, hn2, rfl⟩ := e2
    subst e1
    exact ⟨.ref Cn, .ref Cn, _, rfl, fun u h => h, T.ki n Cn hn2 hn, k.flat sh rfl⟩
  | [.exc a c', .ty n], e, r =>
    have e : (if a = pin ∧ c' = c ∧ n = "ValueError" then some (D.bl true) else none) = some d := e
    obtain ⟨⟨rfl, rfl, rfl⟩, rfl⟩ := ite_some e
    obtain ⟨v, v2, rfl, r1, r2⟩ := ArgMs.get2 r
    have e1 : v = .ref a := r1.flat (Same.refl _) fun _ _ t => t
    have e2 : v2 = .ty "ValueError" := r2.flat (Same.refl _) fun _ _ t => t
    subst e1 e2
    exact ⟨.ty "ValueError", .type "ValueError", _, rfl, fun u h => h, T.kv, k.flat sh rfl⟩
/-- a class's name as a value -/
theorem de_cls {X : Cx} {Γ : CM} {M : List Mode} {x : Str} {C : Addr} {pos : Pos} (hm : X.mg x = some (.ref C)) (hΓ : Γ x = some C) (hg : Gl X x := by rfl) (hd : (x == ("__debug__" : Str)) = false := by decide) : DE Γ X M (.Name x pos) (tC (.ref C)) (vC (.cls x)) .sh := ⟨pe_glob hg hm (show RelV (.ref C) (.ref C) from rfl) hd, snd_c fun _ => ⟨C, hΓ, rfl⟩⟩
end Dl
/-! xs.count(y), of plain data. -/
namespace Dl
open PySem L2 PyProof.Rows
def opCnt (l y : D) : Option D := match l with
  | .lst ds => if cmpOk (.lst ds) y then some (.int ((ds.countP fun z => D.eqv z y : Nat) : Int)) else none
  | _ => none
def vCnt (fo fe : Ev) : Ev := fun δ => (fo δ).bind fun l => (fe δ).bind fun y => opCnt l y
def rCntD (K : PySem.W.Frag) (Γ : CM) : V → List V → Hp → VK → Prop := fun x xs H Q => ∃ ds d y, Rep K Γ H (.lst ds) x ∧ xs = [y] ∧ Rep K Γ H d y ∧ cmpOk (.lst ds) d = true ∧ Q (.int ((ds.countP fun z => D.eqv z d : Nat) : Int)) H
theorem pyL_count (a : D) : ∀ ds : List D, ((D.pyL ds).countP fun y => PyData.eqv y a.py) = ds.countP fun y => D.eqv y a
  | [] => rfl
  | d :: ds => by
    show List.countP _ (d.py :: D.pyL ds) = _
    rw [List.countP_cons, List.countP_cons, pyL_count a ds]; rfl
theorem mt_countD {X : Cx} {Γ : CM} (hu : X.A.units + 64 < cLine) : MtR X "list.count" (rCntD X.K Γ) := by
  intro pins s σ H x xs v us Q I rx rxs h
  obtain ⟨ds, d, y, rl, rfl, rd, c, q⟩ := h
  obtain ⟨u, rfl, ru⟩ := rxs.one
  obtain ⟨c1, c2, c3⟩ := cmpOk_and c
  obtain ⟨as, r1⟩ := Rep.reads I (.lst ds) x v rl rx c1
  obtain ⟨bs, r2⟩ := Rep.reads I d y u rd ru c2
  have r1' : Reads s.heap v (.list (D.pyL ds)) as := r1
  have hxs : PyData.plainAll (D.pyL ds) = true := c1
  have c3' : min (PyData.depthAll (D.pyL ds) + 1) d.py.depth ≤ 60 := c3
  cases r1' with
  | @list a o vs n _ _ h1 h2 h3 h4 =>
    obtain ⟨cls, dd, data, sl⟩ := o
    simp only at h2 h3
    subst h2 h3
    refine call_meets PySem.F.slot_list_count ⟨_, h1, rfl⟩ PySem.F.entry_list_count (PySem.F.args_list_count_2 _ _)
      (SeqAt.list_countAt a vs n dd sl u (fun z => PyData.eqv (SeqAt.readOf s.heap z) d.py)) ⟨h1, fun z hz => SeqAt.items_plain (A := X.A) h4 r2 hxs c2 (by omega) z hz, ?_⟩
    have ec : vs.toList.countP (fun z => PyData.eqv (SeqAt.readOf s.heap z) d.py) = ds.countP fun z => D.eqv z d := by
      rw [← pyL_count, ← SeqAt.readsAll_map_plain _ _ _ hxs h4, List.countP_map]; rfl
    refine ⟨.int _, H, I.tok _, ⟨s.toks, ?_⟩, q⟩
    rw [ec]
section
variable {X : Cx} {Γ : CM} {M : List Mode} {o e : Expr} {to te : TE} {fo fe : Ev} {mo me : Mode} {apos cpos : Pos}
theorem de_count (K : PySem.W.Frag) (hu : X.A.units + 64 < cLine) (ho : DE Γ X M o to fo mo) (he : DE Γ X M e te fe me) (hme : okS me = true := by rfl)
    (h1 : attributeBase o "count" X.env (eval o X.env) = eval o X.env := by rfl)
    (h2 : (((backTo cpos (starEach [e] X.env)).all (!·.1)) && ((backToKw cpos (keywordEach [] X.env)).all (·.1.isSome)) && decide (([e].length + ([] : List Keyword).length + if ([] : List Keyword).isEmpty = true then 0 else 1) < 30)) = true := by rfl) (h3 : (apos.endLine == cpos.line) = true := by rfl)
    (h4 : starEach [e] X.env = (false, eval e X.env) :: starEach [] X.env := by rfl) (h5 : (backTo cpos (starEach [] X.env)).any (·.1) = false := by rfl) (hK : X.K = K := by rfl) :
    DE Γ X M (.Call (.Attribute o "count" apos) [e] [] cpos) (tBM K "list" (rCntD K Γ) to (tCons te tNil)) (vCnt fo fe) .sh := by
  subst hK
  refine ⟨pe_bm PySem.F.plainAttrs_list PySem.F.slot_list_count PySem.F.type_list_count (mt_countD hu) ho.pe (pa_cons he.pe pa_nil h4) h1 h2 h3 h4 h5, fun S0 H0 S H σ δ Q d w ef k => ?_⟩
  obtain ⟨l, e1, e2⟩ := bind_some ef
  obtain ⟨y, e3, e4⟩ := bind_some e2
  cases l with
  | lst ds =>
    obtain ⟨c, rfl⟩ := ite_some (show (if cmpOk (.lst ds) y then some (D.int ((ds.countP fun z => D.eqv z y : Nat) : Int)) else none) = some d from e4)
    refine ho.snd S0 H0 S H σ δ _ _ w e1 fun v S1 H1 x1 r1 _ => ?_
    have w1 := w.mono x1
    obtain ⟨p, vs, rfl, hp, hl, rl⟩ := r1.lst x1.sh w1.h0
    refine ⟨.inl ⟨rfl, vs, SqL.of hp⟩, ?_⟩
    refine (he.snd.sh hme) S0 H0 S1 H1 σ δ _ _ w1 e3 fun u S2 H2 x2 r2 _ => ?_
    have w2 := w1.mono x2
    refine ⟨ds, y, u, ⟨p, vs, rfl, x2.hh _ _ hp, hl, (rl.mono x2.ss).mono x2.sh⟩, rfl, r2.full x2.sh w2.h0, c, ?_⟩
    exact k _ S2 H2 (x1.trans x2) rfl fun q => by cases q
  | _ => cases e4
end
end Dl
/-! plain laws of the denotations: evaluation by simp, loops by simulation. -/
namespace Dl
open PySem L2
section
@[simp] theorem vVar_def (i : Nat) (δ : Env) : vVar i δ = (δ[i]?).join := rfl
@[simp] theorem vC_def (d : D) (δ : Env) : vC d δ = some d := rfl
@[simp] theorem v2_def (o : D → D → Option D) (f g : Ev) (δ : Env) : v2 o f g δ = (f δ).bind fun a => (g δ).bind fun b => o a b := rfl
@[simp] theorem vTst_def (f : Ev) (δ : Env) : vTst f δ = (f δ).bind fun d => match d with | .bl b => some b | _ => none := rfl
@[simp] theorem vChain_def (o o' : D → D → Option D) (f g h : Ev) (δ : Env) : vChain o o' f g h δ = (f δ).bind fun a => (g δ).bind fun b => (o a b).bind fun d => match d with
  | .bl c => if c = true then (h δ).bind fun c => o' b c else some (.bl false)
  | _ => none := by
  unfold vChain
  congr 1; funext a; congr 1; funext b; congr 1; funext d
  cases d with
  | bl c => cases c <;> rfl
  | _ => rfl
@[simp] theorem bAnd_def (p q : Env → Option Bool) (δ : Env) : bAnd p q δ = (p δ).bind fun b => if b = true then q δ else some false := rfl
@[simp] theorem bOr_def (p q : Env → Option Bool) (δ : Env) : bOr p q δ = (p δ).bind fun b => if b = true then some true else q δ := rfl
@[simp] theorem bNot_def (p : Env → Option Bool) (δ : Env) : bNot p δ = (p δ).map (!·) := rfl
@[simp] theorem vAnd_def (f g : Ev) (δ : Env) : vAnd f g δ = (vTst f δ).bind fun b => if b = true then g δ else some (.bl false) := rfl
@[simp] theorem vOr_def (f g : Ev) (δ : Env) : vOr f g δ = (vTst f δ).bind fun b => if b = true then some (.bl true) else g δ := rfl
@[simp] theorem vNot_def (f : Ev) (δ : Env) : vNot f δ = (vTst f δ).map fun b => .bl (!b) := rfl
@[simp] theorem vIf_def (p : Env → Option Bool) (f g : Ev) (δ : Env) : vIf p f g δ = (p δ).bind fun b => if b = true then f δ else g δ := rfl
@[simp] theorem vNeg_def (f : Ev) (δ : Env) : vNeg f δ = (f δ).bind fun d => match d with | .int i => some (.int (-i)) | _ => none := rfl
@[simp] theorem aNil_def (δ : Env) : aNil δ = some [] := rfl
@[simp] theorem aCons_def (f : Ev) (g : Env → Option (List D)) (δ : Env) : aCons f g δ = (f δ).bind fun d => (g δ).map (d :: ·) := rfl
@[simp] theorem vLst_def (f : Env → Option (List D)) (δ : Env) : vLst f δ = (f δ).bind fun ds => if ds.length ≤ 1000 then some (.lst ds) else none := rfl
@[simp] theorem vTup_def (f : Env → Option (List D)) (δ : Env) : vTup f δ = (f δ).bind fun ds => if ds.length ≤ 1000 then some (.tup ds) else none := rfl
@[simp] theorem vFld_def (x : Str) (f : Ev) (δ : Env) : vFld x f δ = (f δ).bind fun d => (fldsD d).bind fun fs => fs.lookup x := rfl
@[simp] theorem vC1_def (op : List D → Option D) (f : Env → Option (List D)) (δ : Env) : vC1 op f δ = (f δ).bind op := rfl
@[simp] theorem vPart_def (f : Ev) (δ : Env) : vPart f δ = (f δ).bind fun d => match d with | .int i => some (some i) | _ => none := rfl
@[simp] theorem vSl_def (o : D → Option Int → Option Int → Option D) (f : Ev) (l u : Env → Option (Option Int)) (δ : Env) : vSl o f l u δ = (f δ).bind fun d => (l δ).bind fun lo => (u δ).bind fun hi => o d lo hi := rfl
@[simp] theorem sNext_def (δ : Env) : sNext δ = some (.nx δ) := rfl
@[simp] theorem sSeq_def (s s' : Sv) (δ : Env) : sSeq s s' δ = (s δ).bind fun o => match o with | .nx δ' => s' δ' | o => some o := rfl
@[simp] theorem sSet_def (i : Nat) (f : Ev) (δ : Env) : sSet i f δ = (f δ).map fun d => .nx (δ.set i (some d)) := rfl
@[simp] theorem sRet_def (f : Ev) (δ : Env) : sRet f δ = (f δ).map .rt := rfl
@[simp] theorem sRetN_def (δ : Env) : sRetN δ = some (.rt .non) := rfl
@[simp] theorem sIf_def (p : Env → Option Bool) (s s' : Sv) (δ : Env) : sIf p s s' δ = (p δ).bind fun b => if b = true then s δ else s' δ := rfl
@[simp] theorem sExpr_def (f : Ev) (δ : Env) : sExpr f δ = (f δ).map fun _ => .nx δ := rfl
@[simp] theorem sAsg_def (f : Ev) (h : Hv) (δ : Env) : sAsg f h δ = (f δ).bind fun d => (h d δ).map .nx := rfl
@[simp] theorem sFor_def (it : Env → Option (List D)) (set : Hv) (body : Sv) (δ : Env) : sFor it set body δ = (it δ).bind fun ds => forD set body ds δ := rfl
@[simp] theorem hName_def (i : Nat) (d : D) (δ : Env) : hName i d δ = some (δ.set i (some d)) := rfl
@[simp] theorem hTup_def (n : Nat) (hs : List D → Env → Option Env) (ds : List D) (δ : Env) : hTup n hs (.tup ds) δ = if ds.length = n then hs ds δ else none := rfl
@[simp] theorem hCons_def (h : Hv) (hs : List D → Env → Option Env) (d : D) (ds : List D) (δ : Env) : hCons h hs (d :: ds) δ = (h d δ).bind (hs ds) := rfl
@[simp] theorem hNil_def (δ : Env) : hNil [] δ = some δ := rfl
@[simp] theorem iAnyF_def (f : Ev) (δ : Env) : iAnyF f δ = (f δ).bind itemsD := rfl
@[simp] theorem itemsD_lst (ds : List D) : itemsD (.lst ds) = some ds := rfl
@[simp] theorem itemsD_tup (ds : List D) : itemsD (.tup ds) = some ds := rfl
@[simp] theorem itemsD_scr (ns : List Int) : itemsD (.scr ns) = some (ns.map D.int) := rfl
@[simp] theorem itemsD_str (x : Str) : itemsD (.str x) = some (signs x) := rfl
@[simp] theorem vLc_def (it : Env → Option (List D)) (set : Hv) (p : Env → Option Bool) (elt : Ev) (vs : List Nat) (δ : Env) : vLc it set p elt vs δ = (it δ).bind fun ds => (lcD set p elt (wipeE δ vs) ds).map .lst := rfl
@[simp] theorem tsYes_def (δ : Env) : tsYes δ = some true := rfl
@[simp] theorem wipeE_nil (δ : Env) : wipeE δ [] = δ := rfl
@[simp] theorem wipeE_cons (δ : Env) (v : Nat) (vs : List Nat) : wipeE δ (v :: vs) = (wipeE δ vs).set v none := rfl
@[simp] theorem opI_ii (g : Int → Int → Option D) (i j : Int) : opI g (.int i) (.int j) = g i j := rfl
@[simp] theorem opAdd_ii (i j : Int) : opAdd (.int i) (.int j) = some (.int (i + j)) := rfl
@[simp] theorem opAdd_ss (a b : Str) : opAdd (.str a) (.str b) = if a.length + b.length ≤ sizeLine then some (.str (a ++ b)) else none := rfl
@[simp] theorem opSub_ii (i j : Int) : opSub (.int i) (.int j) = some (.int (i - j)) := rfl
@[simp] theorem opMulI_ii (i j : Int) : opMulI (.int i) (.int j) = if mulOk i j then some (.int (i * j)) else none := rfl
@[simp] theorem opMod_ii (i j : Int) : opMod (.int i) (.int j) = if 0 < j then some (.int (i % j)) else none := rfl
@[simp] theorem opDiv_ii (i j : Int) : opDiv (.int i) (.int j) = if 0 < j ∧ j < 1073741824 then some (.int (i / j)) else none := rfl
@[simp] theorem opPow_ii (i j : Int) : opPow (.int i) (.int j) = if 0 ≤ j ∧ j ≤ 1000000 ∧ i.natAbs < 2 ^ 64 then some (.int (i ^ j.toNat)) else none := rfl
@[simp] theorem opLt_ii (i j : Int) : opLt (.int i) (.int j) = some (.bl (decide (i < j))) := rfl
@[simp] theorem opLe_ii (i j : Int) : opLe (.int i) (.int j) = some (.bl (decide (i ≤ j))) := rfl
@[simp] theorem opGt_ii (i j : Int) : opGt (.int i) (.int j) = some (.bl (decide (j < i))) := rfl
@[simp] theorem opGe_ii (i j : Int) : opGe (.int i) (.int j) = some (.bl (decide (j ≤ i))) := rfl
@[simp] theorem opIs_non (a : D) : opIs a .non = some (.bl (isNon a)) := by cases a <;> rfl
@[simp] theorem opNot_non (a : D) : opNot a .non = some (.bl (!isNon a)) := by cases a <;> rfl
@[simp] theorem isNon_non : isNon .non = true := rfl
@[simp] theorem isNon_int (i : Int) : isNon (.int i) = false := rfl
@[simp] theorem isNon_str (i : Str) : isNon (.str i) = false := rfl
@[simp] theorem isNon_bl (i : Bool) : isNon (.bl i) = false := rfl
@[simp] theorem isNon_tup (i : List D) : isNon (.tup i) = false := rfl
@[simp] theorem isNon_lst (i : List D) : isNon (.lst i) = false := rfl
@[simp] theorem opLen_lst (ds : List D) : opLen [.lst ds] = some (.int ds.length) := rfl
@[simp] theorem opLen_tup (ds : List D) : opLen [.tup ds] = some (.int ds.length) := rfl
@[simp] theorem opLen_scr (ns : List Int) : opLen [.scr ns] = some (.int ns.length) := rfl
@[simp] theorem opLen_str (x : Str) : opLen [.str x] = some (.int x.length) := rfl
@[simp] theorem opIx_lst (ds : List D) (i : Int) : opIx (.lst ds) (.int i) = atI ds i := rfl
@[simp] theorem opIx_tup (ds : List D) (i : Int) : opIx (.tup ds) (.int i) = atI ds i := rfl
@[simp] theorem opIx_ktup (ds : List D) (i : Int) : opIx (.ktup ds) (.int i) = atI ds i := rfl
@[simp] theorem opIx_scr (ns : List Int) (i : Int) : opIx (.scr ns) (.int i) = (atI ns i).map D.int := rfl
@[simp] theorem opIx_str (z : Str) (i : Int) : opIx (.str z) (.int i) = (atI z.cps.toList i).map fun c => D.str ⟨#[c]⟩ := rfl
end
/-! ### items -/
theorem atI_some {α : Type} {l : List α} {i : Int} (h0 : 0 ≤ i) (h1 : i < l.length) : atI l i = l[i.toNat]? := by
  have e : i = ((i.toNat : Nat) : Int) := by omega
  have hj : i.toNat < l.length := by omega
  rw [e, atI_nat (List.getElem?_eq_getElem hj)]
  rw [Int.toNat_natCast, List.getElem?_eq_getElem hj]
@[simp] theorem atI_0 {α : Type} (a : α) (l : List α) : atI (a :: l) 0 = some a := atI_nat (j := 0) rfl
@[simp] theorem atI_1 {α : Type} (a b : α) (l : List α) : atI (a :: b :: l) 1 = some b := atI_nat (j := 1) rfl
@[simp] theorem atI_2 {α : Type} (a b c : α) (l : List α) : atI (a :: b :: c :: l) 2 = some c := atI_nat (j := 2) rfl
@[simp] theorem atI_3 {α : Type} (a b c d : α) (l : List α) : atI (a :: b :: c :: d :: l) 3 = some d := atI_nat (j := 3) rfl
@[simp] theorem atI_4 {α : Type} (a b c d e : α) (l : List α) : atI (a :: b :: c :: d :: e :: l) 4 = some e := atI_nat (j := 4) rfl
/-! ### equality -/
@[simp] theorem opEq_ii (a b : Int) : opEq (.int a) (.int b) = some (.bl (a == b)) := rfl
@[simp] theorem opEq_ss (a b : Str) : opEq (.str a) (.str b) = some (.bl (a == b)) := rfl
@[simp] theorem opEq_bb (a b : Bool) : opEq (.bl a) (.bl b) = some (.bl (a == b)) := rfl
@[simp] theorem opNe_ii (a b : Int) : opNe (.int a) (.int b) = some (.bl (!(a == b))) := rfl
@[simp] theorem opNe_ss (a b : Str) : opNe (.str a) (.str b) = some (.bl (!(a == b))) := rfl
@[simp] theorem opNe_bb (a b : Bool) : opNe (.bl a) (.bl b) = some (.bl (!(a == b))) := rfl
@[simp] theorem opEq_in (a : Int) : opEq (.int a) .non = some (.bl false) := rfl
@[simp] theorem opEq_ni (a : Int) : opEq .non (.int a) = some (.bl false) := rfl
@[simp] theorem opNe_in (a : Int) : opNe (.int a) .non = some (.bl true) := rfl
@[simp] theorem opNe_ni (a : Int) : opNe .non (.int a) = some (.bl true) := rfl
@[simp] theorem opEq_nn : opEq .non .non = some (.bl true) := rfl
@[simp] theorem opNe_nn : opNe .non .non = some (.bl false) := rfl
/-- plain data of a depth -/
def fitN (n : Nat) (d : D) : Prop := d.py.plain = true ∧ d.py.depth ≤ n
theorem fit_int (i : Int) (n : Nat) : fitN n (.int i) := ⟨rfl, Nat.zero_le _⟩
theorem fit_str (i : Str) (n : Nat) : fitN n (.str i) := ⟨rfl, Nat.zero_le _⟩
theorem fit_bl (i : Bool) (n : Nat) : fitN n (.bl i) := ⟨rfl, Nat.zero_le _⟩
theorem fit_non (n : Nat) : fitN n .non := ⟨rfl, Nat.zero_le _⟩
theorem fit_all {n : Nat} : ∀ {ds : List D}, (∀ d ∈ ds, fitN n d) → PyData.plainAll (D.pyL ds) = true ∧ PyData.depthAll (D.pyL ds) ≤ n
  | [], _ => ⟨rfl, Nat.zero_le _⟩
  | d :: ds, h => by
    obtain ⟨a, b⟩ := fit_all fun x hx => h x (List.mem_cons_of_mem _ hx)
    obtain ⟨c, e⟩ := h d List.mem_cons_self
    exact ⟨by show (d.py.plain && _) = true; rw [c, a]; rfl, by show max d.py.depth _ ≤ n; omega⟩
theorem fit_lst {n : Nat} {ds : List D} (h : ∀ d ∈ ds, fitN n d) : fitN (n + 1) (.lst ds) := ⟨(fit_all h).1, Nat.succ_le_succ (fit_all h).2⟩
theorem fit_tup {n : Nat} {ds : List D} (h : ∀ d ∈ ds, fitN n d) : fitN (n + 1) (.tup ds) := ⟨(fit_all h).1, Nat.succ_le_succ (fit_all h).2⟩
theorem cmpOk_of {n : Nat} {a b : D} (ha : fitN n a) (hb : fitN n b) (hn : n ≤ 60) : cmpOk a b = true := by
  unfold cmpOk
  rw [ha.1, hb.1, decide_eq_true (by have := ha.2; omega)]
  rfl
theorem eqv_refl {d : D} (h : d.py.plain = true) : D.eqv d d = true := PySem.SeqAt.eqv_refl_plain _ h
theorem opNe_self {n : Nat} {d : D} (h : fitN n d) (hn : n ≤ 60) : opNe d d = some (.bl false) := by
  unfold opNe
  rw [if_pos (cmpOk_of h h hn), eqv_refl h.1]
  rfl
theorem opEq_self {n : Nat} {d : D} (h : fitN n d) (hn : n ≤ 60) : opEq d d = some (.bl true) := by
  unfold opEq
  rw [if_pos (cmpOk_of h h hn), eqv_refl h.1]
/-! ### comprehensions -/
theorem lcD_map {α : Type} {i : Nat} {p : Env → Option Bool} {elt : Ev} {δ : Env} {enc : α → D} {P : α → Bool} {g : α → D} : ∀ {xs : List α}, (∀ x ∈ xs, p (δ.set i (some (enc x))) = some (P x)) → (∀ x ∈ xs, P x = true → elt (δ.set i (some (enc x))) = some (g x)) →
    lcD (hName i) p elt δ (xs.map enc) = some ((xs.filter P).map g)
  | [], _, _ => rfl
  | x :: xs, h1, h2 => by
    have ih := lcD_map (xs := xs) (fun y hy => h1 y (List.mem_cons_of_mem _ hy)) (fun y hy => h2 y (List.mem_cons_of_mem _ hy))
    show ((hName i (enc x) δ).bind fun δ1 => (p δ1).bind fun b => if b = true then (elt δ1).bind fun y => (lcD (hName i) p elt δ (xs.map enc)).map (y :: ·) else lcD (hName i) p elt δ (xs.map enc)) = _
    rw [hName_def, Option.bind_some, h1 x List.mem_cons_self, Option.bind_some, ih]
    cases q : P x with
    | true => rw [if_pos rfl, h2 x List.mem_cons_self q, List.filter_cons_of_pos q]; rfl
    | false => rw [if_neg Bool.false_ne_true, List.filter_cons_of_neg (by rw [q]; exact Bool.false_ne_true)]
/-- no test -/
theorem lcD_map' {α : Type} {i : Nat} {elt : Ev} {δ : Env} {enc : α → D} {g : α → D} {xs : List α} (h2 : ∀ x ∈ xs, elt (δ.set i (some (enc x))) = some (g x)) : lcD (hName i) tsYes elt δ (xs.map enc) = some (xs.map g) := by
  have h := lcD_map (p := tsYes) (P := fun _ => true) (i := i) (δ := δ) (enc := enc) (xs := xs) (fun _ _ => rfl) (fun x hx _ => h2 x hx)
  rw [h, List.filter_eq_self.mpr (fun _ _ => rfl)]
/-- each element is of a kind -/
theorem lcD_each {β : Type} {set : Hv} {elt : Ev} {δ : Env} {enc : β → D} : ∀ {ds : List D}, (∀ d ∈ ds, ∃ δ1, set d δ = some δ1 ∧ ∃ y : β, elt δ1 = some (enc y)) → ∃ ys : List β, lcD set tsYes elt δ ds = some (ys.map enc) ∧ ys.length = ds.length
  | [], _ => ⟨[], rfl, rfl⟩
  | d :: ds, h => by
    obtain ⟨ys, e, l⟩ := lcD_each (ds := ds) fun x hx => h x (List.mem_cons_of_mem _ hx)
    obtain ⟨δ1, e1, y, e2⟩ := h d List.mem_cons_self
    refine ⟨y :: ys, ?_, by rw [List.length_cons, List.length_cons, l]⟩
    show ((set d δ).bind fun δ1 => (tsYes δ1).bind fun b => if b = true then (elt δ1).bind fun y => (lcD set tsYes elt δ ds).map (y :: ·) else lcD set tsYes elt δ ds) = _
    rw [e1, Option.bind_some, tsYes_def, Option.bind_some, if_pos rfl, e2, Option.bind_some, e]
    rfl
theorem mem_rngD {lo : Int} {n : Nat} {d : D} (h : d ∈ rngD lo n) : ∃ k : Int, d = .int k ∧ lo ≤ k ∧ k < lo + n := by
  unfold rngD at h
  obtain ⟨i, hi, e⟩ := List.mem_map.mp h
  have := List.mem_range.mp hi
  exact ⟨lo + i, e.symm, by omega, by omega⟩
/-! ### loops -/
theorem forD_sim {α σ : Type} {set : Hv} {body : Sv} {enc : α → D} (R : σ → Env → Prop) (step : σ → α → σ) : ∀ {xs : List α} {s : σ} {δ : Env}, R s δ → (∀ s δ x, x ∈ xs → R s δ → ∃ δ1 δ2, set (enc x) δ = some δ1 ∧ body δ1 = some (.nx δ2) ∧ R (step s x) δ2) →
    ∃ δ', forD set body (xs.map enc) δ = some (.nx δ') ∧ R (xs.foldl step s) δ'
  | [], s, δ, r, _ => ⟨δ, rfl, r⟩
  | x :: xs, s, δ, r, h => by
    obtain ⟨δ1, δ2, e1, e2, r2⟩ := h s δ x List.mem_cons_self r
    obtain ⟨δ', e3, r3⟩ := forD_sim R step (xs := xs) r2 fun s δ y hy => h s δ y (List.mem_cons_of_mem _ hy)
    refine ⟨δ', ?_, r3⟩
    show ((set (enc x) δ).bind fun δ1 => (body δ1).bind fun o => match o with | .nx δ2 => forD set body (xs.map enc) δ2 | o => some o) = _
    rw [e1, Option.bind_some, e2]
    exact e3
theorem denOf_some {n np : Nat} {rm : Mode} {s : Sv} {ds : List D} {d : D} (hl : ds.length = np) (h : s (ds.map some ++ List.replicate (n - np) none) = some (.rt d)) : denOf n np rm s ds = some d := by
  unfold denOf
  rw [if_pos hl, h]
  rfl

theorem eqv_nil : ∀ {ds : List D}, D.eqv (.lst ds) (.lst []) = ds.isEmpty
  | [] => rfl
  | d :: ds => rfl
theorem cmpOk_nil {n : Nat} {ds : List D} (h : ∀ d ∈ ds, fitN n d) : cmpOk (.lst ds) (.lst []) = true := by
  unfold cmpOk
  rw [(fit_lst h).1, show (D.lst []).py.plain = true from rfl, decide_eq_true (by show min _ 1 ≤ 60; omega)]
  rfl
theorem opNe_nil {n : Nat} {ds : List D} (h : ∀ d ∈ ds, fitN n d) : opNe (.lst ds) (.lst []) = some (.bl (!ds.isEmpty)) := by
  unfold opNe
  rw [if_pos (cmpOk_nil h), eqv_nil]
theorem opEq_nil {n : Nat} {ds : List D} (h : ∀ d ∈ ds, fitN n d) : opEq (.lst ds) (.lst []) = some (.bl ds.isEmpty) := by
  unfold opEq
  rw [if_pos (cmpOk_nil h), eqv_nil]
theorem intsOf_map (xs : List Int) : intsOf (xs.map D.int) = some xs := by
  induction xs with
  | nil => rfl
  | cons x xs ih => show (intsOf (xs.map D.int)).map (x :: ·) = _; rw [ih]; rfl
theorem opMin_ints {xs : List Int} (h : xs ≠ []) : opMin [.lst (xs.map D.int)] = some (.int (minL xs)) := by
  show (intsOf (xs.map D.int)).bind _ = _
  rw [intsOf_map, Option.bind_some, if_neg h]
theorem opMax_ints {xs : List Int} (h : xs ≠ []) : opMax [.lst (xs.map D.int)] = some (.int (maxL xs)) := by
  show (intsOf (xs.map D.int)).bind _ = _
  rw [intsOf_map, Option.bind_some, if_neg h]
theorem opNe_ints (xs : List Int) : opNe (.lst (xs.map D.int)) (.lst []) = some (.bl (!xs.isEmpty)) := by
  rw [opNe_nil (n := 0) (fun d hd => by obtain ⟨x, _, rfl⟩ := List.mem_map.mp hd; exact fit_int _ _)]
  cases xs <;> rfl
@[simp] theorem opNe_nil_nil : opNe (.lst []) (.lst []) = some (.bl false) := opNe_self (n := 1) ⟨rfl, Nat.le_refl _⟩ (by decide)
@[simp] theorem opEq_nil_nil : opEq (.lst []) (.lst []) = some (.bl true) := opEq_self (n := 1) ⟨rfl, Nat.le_refl _⟩ (by decide)
@[simp] theorem opIsi_ty (d : D) (n : String) : opIsi [d, .ty n] = (tyName d).bind fun a => if kitB a n = some (isiB a n) then some (.bl (isiB a n)) else none := rfl
@[simp] theorem kit_int_int : kitB "int" "int" = some true := by decide +kernel
@[simp] theorem kit_int_bool : kitB "int" "bool" = some false := by decide +kernel
@[simp] theorem kit_bool_int : kitB "bool" "int" = some true := by decide +kernel
@[simp] theorem kit_bool_bool : kitB "bool" "bool" = some true := by decide +kernel
@[simp] theorem kit_str_str : kitB "str" "str" = some true := by decide +kernel
@[simp] theorem kit_str_int : kitB "str" "int" = some false := by decide +kernel
@[simp] theorem kit_str_bool : kitB "str" "bool" = some false := by decide +kernel
@[simp] theorem kit_tup_tup : kitB "tuple" "tuple" = some true := by decide +kernel
@[simp] theorem kit_lst_lst : kitB "list" "list" = some true := by decide +kernel
@[simp] theorem isi_int_int : isiB "int" "int" = true := by decide +kernel
@[simp] theorem isi_int_bool : isiB "int" "bool" = false := by decide +kernel
@[simp] theorem isi_bool_int : isiB "bool" "int" = true := by decide +kernel
@[simp] theorem isi_bool_bool : isiB "bool" "bool" = true := by decide +kernel
@[simp] theorem isi_str_str : isiB "str" "str" = true := by decide +kernel
@[simp] theorem isi_str_int : isiB "str" "int" = false := by decide +kernel
@[simp] theorem isi_str_bool : isiB "str" "bool" = false := by decide +kernel
@[simp] theorem isi_tup_tup : isiB "tuple" "tuple" = true := by decide +kernel
@[simp] theorem isi_lst_lst : isiB "list" "list" = true := by decide +kernel
@[simp] theorem tyName_int (i : Int) : tyName (.int i) = some "int" := rfl
@[simp] theorem tyName_str (i : Str) : tyName (.str i) = some "str" := rfl
@[simp] theorem tyName_bl (i : Bool) : tyName (.bl i) = some "bool" := rfl
@[simp] theorem tyName_non : tyName .non = some "NoneType" := rfl
@[simp] theorem tyName_tup (i : List D) : tyName (.tup i) = some "tuple" := rfl
@[simp] theorem tyName_lst (i : List D) : tyName (.lst i) = some "list" := rfl
@[simp] theorem opList_lst (ds : List D) : opList [.lst ds] = some (.lst ds) := rfl
@[simp] theorem iRngF1_def (f : Env → Option (List D)) (δ : Env) : iRngF1 f δ = (f δ).bind fun ds => match ds with | [.int j] => if -1000000 ≤ j ∧ j ≤ 1000000 then some (rngD 0 j.toNat) else none | _ => none := rfl
@[simp] theorem vFmt_def (f : Ev) (δ : Env) : vFmt f δ = (f δ).bind fun d => match d with
  | .str x => some (.str x)
  | .int i => if i.natAbs.log2 < 1920 ∧ (intStr i).length ≤ sizeLine then some (.str (intStr i)) else none
  | _ => none := rfl
@[simp] theorem vJoined_def (fs : List Ev) (δ : Env) : vJoined fs δ = (vJ fs Str.empty δ).map D.str := rfl
@[simp] theorem vJ_nil (acc : Str) (δ : Env) : vJ [] acc δ = some acc := rfl
@[simp] theorem vJ_cons (f : Ev) (fs : List Ev) (acc : Str) (δ : Env) : vJ (f :: fs) acc δ = (f δ).bind fun d => match d with
    | .str y => if (acc ++ y).length ≤ sizeLine then vJ fs (acc ++ y) δ else none
    | _ => none := rfl
@[simp] theorem opStr_int (i : Int) : opStr [.int i] = if i.natAbs.log2 < 1920 ∧ (intStr i).length ≤ sizeLine then some (.str (intStr i)) else none := rfl

theorem intStr_fits {i : Int} (h : i.natAbs < 10 ^ 18) : i.natAbs.log2 < 1920 ∧ (intStr i).length ≤ 20 := by
  constructor
  · by_cases z : i.natAbs = 0
    · rw [z]; decide
    · exact Nat.lt_of_lt_of_le ((Nat.log2_lt z).mpr (Nat.lt_of_lt_of_le h (by decide : 10 ^ 18 ≤ 2 ^ 60))) (by decide)
  · have e := PySem.int_text_length_le10 (a := i) (k := 18) (by decide) h
    show (Str.ofString (toString i)).length ≤ 20
    rw [PySem.ofString_length]; omega
theorem empty_app (s : Str) : Str.empty ++ s = s := by
  show (⟨#[] ++ s.cps⟩ : Str) = s
  rw [Array.empty_append]
theorem small_le {n : Nat} (h : n ≤ 1000) : n ≤ sizeLine := le1000 h
theorem at_one (x : Str) (c i : Nat) : PySem.StrLaws.At x ⟨#[c]⟩ x.length i ↔ x.cps.toList[i]? = some c := by
  have hl : (⟨#[c]⟩ : Str).length = 1 := rfl
  have e2 : (Builtin.Str.subAt x ⟨#[c]⟩ i = true) ↔ (x.cps.toList.drop i).take 1 = [c] := by
    rw [PySem.StrLaws.subAt_eq]
    show ((x.cps.toList.drop i).take 1 == [c]) = true ↔ _
    rw [beq_iff_eq]
  have e3 : (x.cps.toList.drop i).take 1 = [c] ↔ x.cps.toList[i]? = some c := by
    rw [← List.head?_drop]
    cases x.cps.toList.drop i with
    | nil => simp
    | cons a l => simp
  constructor
  · intro h; exact e3.mp (e2.mp h.2)
  · intro h
    refine ⟨?_, e2.mpr (e3.mpr h)⟩
    have := (List.getElem?_eq_some_iff.mp h).1
    rw [hl]
    show i + 1 ≤ x.cps.size
    exact Nat.succ_le_of_lt (by simpa using this)
theorem find_one (x : Str) (c : Nat) : (∃ i : Nat, Txt.find x ⟨#[c]⟩ = (i : Int) ∧ x.cps.toList[i]? = some c ∧ ∀ k, k < i → x.cps.toList[k]? ≠ some c) ∨ (Txt.find x ⟨#[c]⟩ = -1 ∧ c ∉ x.cps.toList) := by
  unfold Txt.find
  rcases PySem.StrLaws.occ_head x ⟨#[c]⟩ 1 (by decide) with ⟨h0, hn⟩ | ⟨i, r, h0, ha, hn⟩
  · right
    rw [h0]
    refine ⟨rfl, fun hm => ?_⟩
    obtain ⟨i, hi⟩ := List.getElem?_of_mem hm
    exact hn i ((at_one x c i).mpr hi)
  · left
    rw [h0]
    exact ⟨i, rfl, (at_one x c i).mp ha, fun k hk z => hn k hk ((at_one x c k).mpr z)⟩

/-- a search: it hands back at the first that is so -/
theorem forD_search {α : Type} {set : Hv} {body : Sv} {enc : α → D} (R : Env → Prop) (test : α → Bool) (val : α → D) : ∀ {xs : List α} {δ : Env}, R δ → (∀ δ x, x ∈ xs → R δ → ∃ δ1, set (enc x) δ = some δ1 ∧ (test x = true → body δ1 = some (.rt (val x))) ∧ (test x = false → ∃ δ2, body δ1 = some (.nx δ2) ∧ R δ2)) →
    (∀ x, xs.find? test = some x → forD set body (xs.map enc) δ = some (.rt (val x))) ∧ (xs.find? test = none → ∃ δ', forD set body (xs.map enc) δ = some (.nx δ') ∧ R δ')
  | [], δ, r, _ => ⟨fun x h => by simp at h, fun _ => ⟨δ, rfl, r⟩⟩
  | x :: xs, δ, r, h => by
    obtain ⟨δ1, e1, h1, h2⟩ := h δ x List.mem_cons_self r
    have eq : forD set body ((x :: xs).map enc) δ = (body δ1).bind fun o => match o with | .nx δ2 => forD set body (xs.map enc) δ2 | o => some o := by
      show ((set (enc x) δ).bind fun δ1 => (body δ1).bind fun o => match o with | .nx δ2 => forD set body (xs.map enc) δ2 | o => some o) = _
      rw [e1]; rfl
    rw [eq]
    cases q : test x with
    | true =>
      rw [List.find?_cons_of_pos q, h1 q]
      exact ⟨fun y hy => by cases hy; rfl, fun z => by cases z⟩
    | false =>
      obtain ⟨δ2, e2, r2⟩ := h2 q
      rw [List.find?_cons_of_neg (by rw [q]; exact Bool.false_ne_true), e2]
      exact forD_search R test val (xs := xs) r2 fun δ y hy => h δ y (List.mem_cons_of_mem _ hy)
theorem rngD_def (lo : Int) (n : Nat) : rngD lo n = (List.range n).map fun (i : Nat) => D.int (lo + (i : Int)) := rfl
@[simp] theorem sPar_def (i j : Nat) (f : Env → Option (List D)) (δ : Env) : sPar i j f δ = (f δ).bind fun ds => match ds with
  | [d, e] => some (.nx ((δ.set i (some d)).set j (some e)))
  | _ => none := rfl
@[simp] theorem vM_def (op : Str → List D → Option D) (f : Ev) (g : Env → Option (List D)) (δ : Env) : vM op f g δ = (f δ).bind fun a => (g δ).bind fun ds => match a with | .str x => op x ds | _ => none := rfl
@[simp] theorem vM0_def (op : Str → List D → Option D) (f : Ev) (δ : Env) : vM0 op f δ = (f δ).bind fun a => match a with | .str x => op x [] | _ => none := rfl
@[simp] theorem mFind_s (x y : Str) : mFind x [.str y] = some (.int (Txt.find x y)) := rfl
@[simp] theorem opSl_str (z : Str) (lo hi : Option Int) : opSl (.str z) lo hi = some (.str ⟨(cutD z.cps.toList lo hi).toArray⟩) := rfl
@[simp] theorem opSl_lst (z : List D) (lo hi : Option Int) : opSl (.lst z) lo hi = some (.lst (cutD z lo hi)) := rfl
theorem mulOk_r (i : Int) {j : Int} (h : -(2 ^ 64) < j ∧ j < 2 ^ 64) : mulOk i j = true := by
  unfold mulOk
  simp only [decide_eq_true h.1, decide_eq_true h.2, Bool.and_self, Bool.or_true]
theorem mulOk_l {i : Int} (j : Int) (h : -(2 ^ 64) < i ∧ i < 2 ^ 64) : mulOk i j = true := by
  unfold mulOk
  simp only [decide_eq_true h.1, decide_eq_true h.2, Bool.and_self, Bool.true_or]

/-! ### slices, signs -/
theorem cutD_to {α : Type} (xs : List α) (k : Nat) : cutD xs none (some (k : Int)) = xs.take k := by
  unfold cutD
  rw [HT.sIx_none, HT.sIx_nat, List.drop_zero, Nat.sub_zero]
  by_cases h : k ≤ xs.length
  · rw [Nat.min_eq_left h]
  · rw [Nat.min_eq_right (by omega), List.take_length, List.take_of_length_le (by omega)]
theorem cutD_from {α : Type} (xs : List α) (k : Nat) : cutD xs (some (k : Int)) none = xs.drop k := by
  unfold cutD
  rw [HT.sIx_none, HT.sIx_nat]
  by_cases h : k ≤ xs.length
  · rw [Nat.min_eq_left h, List.take_of_length_le (by rw [List.length_drop]; omega)]
  · rw [Nat.min_eq_right (by omega), List.drop_of_length_le (by omega), List.drop_of_length_le (by omega), List.take_nil]
theorem cutD_to1 {α : Type} (xs : List α) : cutD xs none (some 1) = xs.take 1 := cutD_to xs 1
theorem cutD_from1 {α : Type} (xs : List α) : cutD xs (some 1) none = xs.drop 1 := cutD_from xs 1
theorem strIn_one (c : Nat) (x : Str) : strIn ⟨#[c]⟩ x = decide (c ∈ x.cps.toList) := by
  unfold strIn
  rcases PySem.StrLaws.occ_head x ⟨#[c]⟩ 1 (by decide) with ⟨h0, hn⟩ | ⟨i, r, h0, ha, hn⟩
  · rw [h0, decide_eq_false]
    · rfl
    · intro hm
      obtain ⟨i, hi⟩ := List.getElem?_of_mem hm
      exact hn i ((at_one x c i).mpr hi)
  · rw [h0, decide_eq_true]
    · rfl
    · exact List.mem_of_getElem? ((at_one x c i).mp ha)
theorem str_beq (a b : Str) : (a == b) = decide (a.cps.toList = b.cps.toList) := by
  by_cases h : a.cps.toList = b.cps.toList
  · rw [decide_eq_true h]
    have : a = b := by
      obtain ⟨x⟩ := a
      obtain ⟨y⟩ := b
      congr 1
      exact Array.ext' h
    rw [this]
    exact beq_self_eq_true _
  · rw [decide_eq_false h]
    exact beq_eq_false_iff_ne.mpr fun z => h (by rw [z])
theorem str_length (t : Str) : t.length = t.cps.toList.length := by simp [Str.length]
@[simp] theorem opIn_ss (a b : Str) : opIn (.str a) (.str b) = some (.bl (strIn a b)) := rfl
@[simp] theorem opNin_ss (a b : Str) : opNin (.str a) (.str b) = some (.bl (!strIn a b)) := rfl
@[simp] theorem opInt_str (x : Str) : opInt [.str x] = if x.length ≤ 640 then (PySem.intText? x).map D.int else none := rfl
@[simp] theorem opInt_int (x : Int) : opInt [.int x] = some (.int x) := rfl
theorem signs_def (x : Str) : signs x = x.cps.toList.map fun c => D.str ⟨#[c]⟩ := rfl
theorem intStr_big {i : Int} (h : i.natAbs < 10 ^ 60) : i.natAbs.log2 < 1920 ∧ (intStr i).length ≤ sizeLine := by
  constructor
  · by_cases z : i.natAbs = 0
    · rw [z]; decide
    · exact Nat.lt_of_lt_of_le ((Nat.log2_lt z).mpr (Nat.lt_of_lt_of_le h (by decide : 10 ^ 60 ≤ 2 ^ 200))) (by decide)
  · have e := PySem.int_text_length_le10 (a := i) (k := 60) (by decide) h
    refine le1000 ?_
    show (Str.ofString (toString i)).length ≤ 1000
    rw [PySem.ofString_length]; omega
@[simp] theorem vDict_def (h : Env → Option (List (Key × D))) (δ : Env) : vDict h δ = (h δ).bind fun ps => if ps.length ≤ 15 then some (.dicK (mergeD [] ps)) else none := rfl
@[simp] theorem pNil_def (δ : Env) : pNil δ = some [] := rfl
@[simp] theorem pCons_def (f g : Ev) (h : Env → Option (List (Key × D))) (δ : Env) : pCons f g h δ = (f δ).bind fun a => (keyD a).bind fun k => (g δ).bind fun d => (h δ).map ((k, d) :: ·) := rfl
@[simp] theorem keyD_int (i : Int) : keyD (.int i) = some (.inl i) := rfl
@[simp] theorem keyD_str (i : Str) : keyD (.str i) = some (.inr i) := rfl
@[simp] theorem sPut_def (i : Nat) (fk fv : Ev) (δ : Env) : sPut i fk fv δ = (fv δ).bind fun d => (fk δ).bind fun k => (vVar i δ).bind fun o => (opPut o k d).map fun o' => .nx (δ.set i (some o')) := rfl
@[simp] theorem sApp_def (i : Nat) (f : Ev) (δ : Env) : sApp i f δ = (vVar i δ).bind fun l => match l with
  | .lst ds => (f δ).bind fun d => if ds.length < sizeLine then some (putL i δ (ds ++ [d])) else none
  | _ => none := rfl
@[simp] theorem putL_def (i : Nat) (δ : Env) (ds : List D) : putL i δ ds = .nx (δ.set i (some (.lst ds))) := rfl

/-! ### join -/
theorem fold_len (g : Array Nat) : ∀ (ps : List Str) (a : Array Nat), (ps.foldl (fun acc p => acc ++ g ++ p.cps) a).size = a.size + (ps.map (·.length)).sum + ps.length * g.size
  | [], a => by simp
  | p :: ps, a => by
    rw [List.foldl_cons, fold_len g ps, List.map_cons, List.sum_cons, List.length_cons, Nat.succ_mul, Array.size_append, Array.size_append]
    show a.size + g.size + p.cps.size + _ + _ = a.size + (p.cps.size + _) + _
    omega
theorem join_len (x : Str) : ∀ ys : List Str, (Txt.join x ys).length ≤ (ys.map (·.length)).sum + ys.length * x.length
  | [] => Nat.zero_le _
  | y :: ys => by
    show (ys.foldl (fun acc p => acc ++ x.cps ++ p.cps) y.cps).size ≤ _
    rw [fold_len, List.map_cons, List.sum_cons, List.length_cons, Nat.succ_mul]
    show y.cps.size + _ + ys.length * x.cps.size ≤ y.cps.size + _ + (ys.length * x.cps.size + x.cps.size)
    omega
theorem fold_cps (ps : List Str) : ∀ (a : Array Nat), (ps.foldl (fun acc p => acc ++ (#[] : Array Nat) ++ p.cps) a).toList = a.toList ++ (ps.map (·.cps.toList)).flatten := by
  induction ps with
  | nil => intro a; simp
  | cons p ps ih => intro a; rw [List.foldl_cons, ih]; simp
/-- the signs of texts joined without a sign between -/
theorem join_empty (ys : List Str) : (Txt.join ("" : Str) ys).cps.toList = (ys.map (·.cps.toList)).flatten := by
  cases ys with
  | nil => rfl
  | cons y ys =>
    show (ys.foldl (fun acc p => acc ++ (#[] : Array Nat) ++ p.cps) y.cps).toList = _
    rw [fold_cps]
    simp
@[simp] theorem mJoin_lst (x : Str) (ds : List D) : mJoin x [.lst ds] = (strsOf ds).bind fun ys => if (ys.map (·.length)).sum + ys.length * x.length ≤ 16777216 ∧ (Txt.join x ys).length ≤ sizeLine then some (.str (Txt.join x ys)) else none := rfl
theorem strsOf_map : ∀ ys : List Str, strsOf (ys.map D.str) = some ys
  | [] => rfl
  | y :: ys => by
    show (strsOf (ys.map D.str)).map (y :: ·) = _
    rw [strsOf_map ys]; rfl
theorem mJoin_ok (x : Str) (ys : List Str) (h : (ys.map (·.length)).sum + ys.length * x.length ≤ 1000) : mJoin x [.lst (ys.map D.str)] = some (.str (Txt.join x ys)) := by
  rw [mJoin_lst, strsOf_map, Option.bind_some, if_pos]
  exact ⟨by omega, le1000 (Nat.le_trans (join_len x ys) h)⟩

/-! ### more loops -/
/-- a loop over a range, by the number of turns done -/
theorem forD_upto {set : Hv} {body : Sv} (R : Nat → Env → Prop) {n : Nat} (h : ∀ i δ, i < n → R i δ → ∃ δ1 δ2, set (.int (i : Int)) δ = some δ1 ∧ body δ1 = some (.nx δ2) ∧ R (i + 1) δ2) : ∀ (k s : Nat) (δ : Env), s + k = n → R s δ →
    ∃ δ', forD set body ((List.range' s k).map fun (i : Nat) => D.int (i : Int)) δ = some (.nx δ') ∧ R n δ'
  | 0, s, δ, e, r => ⟨δ, rfl, by
    have e2 : s = n := by omega
    subst e2
    exact r⟩
  | k + 1, s, δ, e, r => by
    obtain ⟨δ1, δ2, e1, e2, r2⟩ := h s δ (by omega) r
    obtain ⟨δ', e3, r3⟩ := forD_upto R h k (s + 1) δ2 (by omega) r2
    refine ⟨δ', ?_, r3⟩
    rw [List.range'_succ, List.map_cons]
    show ((set (.int (s : Int)) δ).bind fun δ1 => (body δ1).bind fun o => match o with | .nx δ2 => forD set body _ δ2 | o => some o) = _
    rw [e1, Option.bind_some, e2]
    exact e3
theorem forD_count {set : Hv} {body : Sv} (R : Nat → Env → Prop) {n : Nat} {δ : Env} (r : R 0 δ) (h : ∀ i δ, i < n → R i δ → ∃ δ1 δ2, set (.int (i : Int)) δ = some δ1 ∧ body δ1 = some (.nx δ2) ∧ R (i + 1) δ2) : ∃ δ', forD set body (rngD 0 n) δ = some (.nx δ') ∧ R n δ' := by
  have := forD_upto R h n 0 δ (by omega) r
  have e : rngD 0 n = (List.range' 0 n).map fun (i : Nat) => D.int (i : Int) := by
    rw [rngD_def, List.range_eq_range']
    simp
  rw [e]
  exact this
/-- a loop that hands back v at the first bad one, and else goes on -/
theorem forD_until {α σ : Type} {set : Hv} {body : Sv} {enc : α → D} {bad : α → Bool} {v : D} (R : σ → Env → Prop) (step : σ → α → σ) : ∀ {xs : List α} {s : σ} {δ : Env}, R s δ → (∀ s δ x, x ∈ xs → R s δ → ∃ δ1, set (enc x) δ = some δ1 ∧ (bad x = true → body δ1 = some (.rt v)) ∧ (bad x = false → ∃ δ2, body δ1 = some (.nx δ2) ∧ R (step s x) δ2)) →
    (xs.any bad = true → forD set body (xs.map enc) δ = some (.rt v)) ∧ (xs.any bad = false → ∃ δ', forD set body (xs.map enc) δ = some (.nx δ') ∧ R (xs.foldl step s) δ')
  | [], s, δ, r, _ => ⟨fun h => by simp at h, fun _ => ⟨δ, rfl, r⟩⟩
  | x :: xs, s, δ, r, h => by
    obtain ⟨δ1, e1, h1, h2⟩ := h s δ x List.mem_cons_self r
    have eq : forD set body ((x :: xs).map enc) δ = (body δ1).bind fun o => match o with | .nx δ2 => forD set body (xs.map enc) δ2 | o => some o := by
      show ((set (enc x) δ).bind fun δ1 => (body δ1).bind fun o => match o with | .nx δ2 => forD set body (xs.map enc) δ2 | o => some o) = _
      rw [e1]; rfl
    rw [eq, List.any_cons]
    cases q : bad x with
    | true =>
      rw [h1 q]
      exact ⟨fun _ => rfl, fun z => by cases z⟩
    | false =>
      obtain ⟨δ2, e2, r2⟩ := h2 q
      rw [e2]
      have ih := forD_until R step (xs := xs) r2 fun s δ y hy => h s δ y (List.mem_cons_of_mem _ hy)
      exact ⟨fun z => ih.1 (by simpa using z), fun z => ih.2 (by simpa using z)⟩
/-! ### tables -/
def tab (m : Nat) (g : Nat → D) : List D := (List.range m).map g
@[simp] theorem tab_len (m : Nat) (g : Nat → D) : (tab m g).length = m := by simp [tab]
theorem tab_at {m x : Nat} {g : Nat → D} (h : x < m) : atI (tab m g) (x : Int) = some (g x) := atI_nat (by simp [tab, h])
theorem tab_succ (m : Nat) (g : Nat → D) : tab (m + 1) g = tab m g ++ [g m] := by simp [tab, List.range_succ]
theorem tab_congr {m : Nat} {g g' : Nat → D} (h : ∀ i, i < m → g i = g' i) : tab m g = tab m g' := List.map_congr_left fun i hi => h i (List.mem_range.mp hi)
theorem tab_set {m i : Nat} {g : Nat → D} {d : D} (h : i < m) : (tab m g).set i d = tab m fun j => if j = i then d else g j := by
  apply List.ext_getElem?
  intro j
  by_cases c : i = j
  · subst c
    rw [List.getElem?_set_self (by simp [h])]
    simp [tab, h]
  · rw [List.getElem?_set_ne c]
    unfold tab
    rw [List.getElem?_map, List.getElem?_map]
    cases q : (List.range m)[j]? with
    | none => rfl
    | some k =>
      have : k = j := by
        rw [List.getElem?_range (by have := (List.getElem?_eq_some_iff.mp q).1; simpa using this)] at q
        exact (Option.some.inj q).symm
      subst this
      show some (g k) = some (if k = i then d else g k)
      rw [if_neg (fun e => c e.symm)]
theorem opPut_lst {ds : List D} {i : Nat} {d : D} (h : i < ds.length) : opPut (.lst ds) (.int (i : Int)) d = some (.lst (ds.set i d)) := by
  show (ixN ds.length (i : Int)).map (fun j => D.lst (ds.set j d)) = _
  have e : ixN ds.length (i : Int) = some i := by
    unfold ixN
    rw [if_pos (by omega), if_pos (by omega)]
    simp
  rw [e]; rfl
/-- numbers -/
def nats (xs : List Nat) : List D := xs.map fun (x : Nat) => D.int (x : Int)
@[simp] theorem nats_len (xs : List Nat) : (nats xs).length = xs.length := by simp [nats]
theorem fit_nats (xs : List Nat) (n : Nat) : ∀ d ∈ nats xs, fitN n d := fun d hd => by
  obtain ⟨x, _, rfl⟩ := List.mem_map.mp hd
  exact fit_int _ _
theorem opIn_nats (x : Nat) (xs : List Nat) : opIn (.int (x : Int)) (.lst (nats xs)) = some (.bl (decide (x ∈ xs))) := by
  show (if cmpOk (.lst (nats xs)) (.int (x : Int)) = true then some ((nats xs).any fun y => D.eqv y (.int (x : Int))) else none).map D.bl = _
  rw [if_pos (cmpOk_of (n := 1) (fit_lst (fit_nats xs 0)) (fit_int _ _) (by decide)), Option.map_some]
  congr 2
  apply Bool.eq_iff_iff.mpr
  rw [List.any_eq_true, decide_eq_true_iff]
  constructor
  · rintro ⟨d, hd, e⟩
    obtain ⟨y, hy, rfl⟩ := List.mem_map.mp hd
    have : ((y : Int) == (x : Int)) = true := e
    have : y = x := by have := beq_iff_eq.mp this; omega
    rw [← this]; exact hy
  · intro h
    exact ⟨.int x, List.mem_map.mpr ⟨x, h, rfl⟩, beq_self_eq_true (x : Int)⟩
@[simp] theorem vSortSet_def (f : Ev) (δ : Env) : vSortSet f δ = (f δ).bind fun d => match d with
  | .lst ds => (intsOf ds).bind fun ns => if ns.length < 64 then some (.lst ((setSort ns).map D.int)) else none
  | _ => none := rfl
theorem nats_ints (xs : List Nat) : nats xs = (xs.map fun (x : Nat) => (x : Int)).map D.int := by simp [nats]
theorem eqv_pair (a b : Str) (i j : Int) : D.eqv (.tup [.str a, .int i]) (.tup [.str b, .int j]) = (a == b && i == j) := by
  show (a == b && (i == j && true)) = _
  rw [Bool.and_true]
theorem fit_pair (a : Str) (i : Int) : fitN 1 (.tup [.str a, .int i]) := fit_tup (n := 0) fun d hd => by
  rcases List.mem_cons.mp hd with rfl | hd
  · exact fit_str _ _
  · rw [List.mem_singleton.mp hd]; exact fit_int _ _
theorem opEq_pair (a b : Str) (i j : Int) : opEq (.tup [.str a, .int i]) (.tup [.str b, .int j]) = some (.bl (a == b && i == j)) := by
  unfold opEq
  rw [if_pos (cmpOk_of (fit_pair a i) (fit_pair b j) (by decide)), eqv_pair]
theorem opEq_non_pair (b : Str) (j : Int) : opEq .non (.tup [.str b, .int j]) = some (.bl false) := by
  unfold opEq
  rw [if_pos (cmpOk_of (n := 1) (fit_non 1) (fit_pair b j) (by decide))]
  rfl
end Dl
/-! L: a typed reading of the denotations. Values of Lean's own types, named; what is read typed is what the denotation tells. -/
namespace Dl
open PySem L2
/-! ### results of a block: goes on with a state, or hands back -/
inductive Ctl (σ ρ : Type) where
  | nx (v : σ) | rt (r : ρ)
/-- a name for a value -/
@[inline] def lett {α β : Type} (x : α) (K : α → β) : β := K x
theorem lett_def {α β : Type} (x : α) (K : α → β) : lett x K = K x := rfl
def bindC {σ ρ β : Type} (T : Option (Ctl σ ρ)) (K : σ → Option β) (R : ρ → β) : Option β := T.bind fun c => match c with | .nx v => K v | .rt r => some (R r)
@[simp] theorem bindC_none {σ ρ β : Type} (K : σ → Option β) (R : ρ → β) : bindC none K R = none := rfl
@[simp] theorem bindC_nx {σ ρ β : Type} (v : σ) (K : σ → Option β) (R : ρ → β) : bindC (some (.nx v)) K R = K v := rfl
@[simp] theorem bindC_rt {σ ρ β : Type} (r : ρ) (K : σ → Option β) (R : ρ → β) : bindC (some (.rt r)) K R = some (R r) := rfl
def foldT {σ α : Type} (B : σ → α → Option σ) : List α → σ → Option σ
  | [], v => some v
  | x :: xs, v => (B v x).bind fun v' => foldT B xs v'
def forT {σ α ρ : Type} (B : σ → α → Option (Ctl σ ρ)) : List α → σ → Option (Ctl σ ρ)
  | [], v => some (.nx v)
  | x :: xs, v => (B v x).bind fun c => match c with | .nx v' => forT B xs v' | .rt r => some (.rt r)
def whT {σ ρ : Type} (p : σ → Option Bool) (B : σ → Option (Ctl σ ρ)) : Nat → σ → Option (Ctl σ ρ)
  | 0, _ => none
  | n + 1, v => (p v).bind fun b => if b = true then (B v).bind fun c => match c with | .nx v' => whT p B n v' | .rt r => some (.rt r) else some (.nx v)
def whN {σ : Type} (p : σ → Option Bool) (B : σ → Option σ) : Nat → σ → Option σ
  | 0, _ => none
  | n + 1, v => (p v).bind fun b => if b = true then (B v).bind fun v' => whN p B n v' else some v
/-- a comprehension -/
def lcT {α β : Type} (P : α → Option Bool) (G : α → Option β) : List α → Option (List β)
  | [] => some []
  | x :: xs => (P x).bind fun b => if b = true then (G x).bind fun y => (lcT P G xs).bind fun ys => some (y :: ys) else lcT P G xs
def outF {σ ρ : Type} (E : σ → Env) (e : ρ → D) : Ctl σ ρ → Out
  | .nx v => .nx (E v)
  | .rt r => .rt (e r)
/-! ### encodings -/
def eL {α : Type} (e : α → D) (xs : List α) : D := .lst (xs.map e)
def eK {α : Type} (e : α → D) (xs : List α) : D := .ktup (xs.map e)
def eT1 {α : Type} (e1 : α → D) (p : α) : D := .tup [e1 p]
def eT2 {α β : Type} (e1 : α → D) (e2 : β → D) (p : α × β) : D := .tup [e1 p.1, e2 p.2]
def eT3 {α β γ : Type} (e1 : α → D) (e2 : β → D) (e3 : γ → D) (p : α × β × γ) : D := .tup [e1 p.1, e2 p.2.1, e3 p.2.2]
def eT4 {α β γ δ : Type} (e1 : α → D) (e2 : β → D) (e3 : γ → D) (e4 : δ → D) (p : α × β × γ × δ) : D := .tup [e1 p.1, e2 p.2.1, e3 p.2.2.1, e4 p.2.2.2]
def eT5 {α β γ δ ε : Type} (e1 : α → D) (e2 : β → D) (e3 : γ → D) (e4 : δ → D) (e5 : ε → D) (p : α × β × γ × δ × ε) : D := .tup [e1 p.1, e2 p.2.1, e3 p.2.2.1, e4 p.2.2.2.1, e5 p.2.2.2.2]
def eT6 {α β γ δ ε ζ : Type} (e1 : α → D) (e2 : β → D) (e3 : γ → D) (e4 : δ → D) (e5 : ε → D) (e6 : ζ → D) (p : α × β × γ × δ × ε × ζ) : D := .tup [e1 p.1, e2 p.2.1, e3 p.2.2.1, e4 p.2.2.2.1, e5 p.2.2.2.2.1, e6 p.2.2.2.2.2]
def eO {α : Type} (e : α → D) : Option α → D
  | none => .non
  | some x => e x
def eU : Unit → D := fun _ => .non
abbrev eD : D → D := fun d => d
def eS (ns : List Int) : D := .scr ns
def kI (i : Int) : Key := .inl i
def kS (s : Str) : Key := .inr s
def eDK {κ α : Type} (k : κ → Key) (e : α → D) (kvs : List (κ × α)) : D := .dicK (kvs.map fun p => (k p.1, e p.2))
def eDT {κ α : Type} (k : κ → List Key) (e : α → D) (kvs : List (κ × α)) : D := .dicT (kvs.map fun p => (k p.1, e p.2))
/-! ### judgements -/
section
variable {α β γ ρ σ : Type} {f g : Ev} {δ : Env} {e : α → D} {x : α} {T : Option α}
def EvP (f : Ev) (δ : Env) (e : α → D) (x : α) : Prop := f δ = some (e x)
def EvM (f : Ev) (δ : Env) (e : α → D) (T : Option α) : Prop := ∀ x, T = some x → f δ = some (e x)
def TsP (p : Env → Option Bool) (δ : Env) (c : Bool) : Prop := p δ = some c
def TsM (p : Env → Option Bool) (δ : Env) (T : Option Bool) : Prop := ∀ c, T = some c → p δ = some c
def St (s : Sv) (δ : Env) (g : β → Out) (T : Option β) : Prop := ∀ r, T = some r → s δ = some (g r)
def ItP (f : Env → Option (List D)) (δ : Env) (e : α → D) (xs : List α) : Prop := f δ = some (xs.map e)
def ItM (f : Env → Option (List D)) (δ : Env) (e : α → D) (T : Option (List α)) : Prop := ∀ xs, T = some xs → f δ = some (xs.map e)
/-- arguments, then what is done with them -/
def ArP (f : Env → Option (List D)) (δ : Env) (k : List D → Option D) (e : α → D) (x : α) : Prop := (f δ).bind k = some (e x)
def ArM (f : Env → Option (List D)) (δ : Env) (k : List D → Option D) (e : α → D) (T : Option α) : Prop := ∀ x, T = some x → (f δ).bind k = some (e x)
/-- what an operation tells, typed -/
def Tot2 (op : D → D → Option D) (e1 : α → D) (e2 : β → D) (e3 : γ → D) (o : α → β → γ) : Prop := ∀ a b, op (e1 a) (e2 b) = some (e3 (o a b))
def Par2 (op : D → D → Option D) (e1 : α → D) (e2 : β → D) (e3 : γ → D) (o : α → β → Option γ) : Prop := ∀ a b c, o a b = some c → op (e1 a) (e2 b) = some (e3 c)
theorem EvP.m (h : EvP f δ e x) : EvM f δ e (some x) := fun y q => by cases q; exact h
theorem TsP.m {p : Env → Option Bool} {c : Bool} (h : TsP p δ c) : TsM p δ (some c) := fun y q => by cases q; exact h
theorem ItP.m {p : Env → Option (List D)} {xs : List α} (h : ItP p δ e xs) : ItM p δ e (some xs) := fun y q => by cases q; exact h
theorem bind_eq {o : Option α} {K : α → Option β} {r : β} (h : o.bind K = some r) : ∃ a, o = some a ∧ K a = some r := by
  cases o with
  | none => cases h
  | some a => exact ⟨a, rfl, h⟩
/-! #### other types of the same value -/
theorem EvP.some (h : EvP f δ e x) : EvP f δ (eO e) (Option.some x) := h
theorem EvM.some (h : EvM f δ e T) : EvM f δ (eO e) (T.bind fun x => Option.some (Option.some x)) := fun y q => by
  obtain ⟨a, e1, e2⟩ := bind_eq q
  cases e2
  exact h a e1
theorem EvP.opt {x : Option α} (h : EvP f δ (eO e) x) : EvM f δ e x := fun y q => by subst q; exact h
theorem EvM.opt {T : Option (Option α)} (h : EvM f δ (eO e) T) : EvM f δ e (T.bind fun x => x) := fun y q => by
  obtain ⟨a, e1, e2⟩ := bind_eq q
  subst e2
  exact h _ e1
theorem EvP.dyn (h : EvP f δ e x) : EvP f δ eD (e x) := h
theorem EvM.dyn (h : EvM f δ e T) : EvM f δ eD (T.bind fun x => Option.some (e x)) := fun y q => by
  obtain ⟨a, e1, e2⟩ := bind_eq q
  cases e2
  exact h a e1
theorem EvP.map {e' : β → D} (c : α → β) (h : EvP f δ e x) (hc : ∀ a, e' (c a) = e a) : EvP f δ e' (c x) := by unfold EvP at *; rw [h, hc]
theorem EvM.map {e' : β → D} (c : α → β) (h : EvM f δ e T) (hc : ∀ a, e' (c a) = e a) : EvM f δ e' (T.bind fun x => Option.some (c x)) := fun y q => by
  obtain ⟨a, e1, e2⟩ := bind_eq q
  cases e2
  rw [hc]; exact h a e1
theorem EvP.cast {d : D} {c : D → Option α} (h : EvP f δ eD d) (hc : ∀ d a, c d = Option.some a → d = e a) : EvM f δ e (c d) := fun y q => by rw [← hc d y q]; exact h
theorem EvM.cast {T : Option D} {c : D → Option α} (h : EvM f δ eD T) (hc : ∀ d a, c d = Option.some a → d = e a) : EvM f δ e (T.bind c) := fun y q => by
  obtain ⟨a, e1, e2⟩ := bind_eq q
  rw [← hc a y e2]; exact h a e1
def cI : D → Option Int | .int i => some i | _ => none
def cS : D → Option Str | .str i => some i | _ => none
def cB : D → Option Bool | .bl i => some i | _ => none
theorem cI_ok : ∀ d a, cI d = some a → d = D.int a := fun d a h => by cases d <;> cases h; rfl
theorem cS_ok : ∀ d a, cS d = some a → d = D.str a := fun d a h => by cases d <;> cases h; rfl
theorem cB_ok : ∀ d a, cB d = some a → d = D.bl a := fun d a h => by cases d <;> cases h; rfl
def cLL (c : D → Option α) : List D → Option (List α)
  | [] => some []
  | d :: ds => (c d).bind fun a => (cLL c ds).bind fun as => some (a :: as)
def cL (c : D → Option α) : D → Option (List α) | .lst ds => cLL c ds | _ => none
theorem cLL_ok {c : D → Option α} (hc : ∀ d a, c d = some a → d = e a) : ∀ (ds : List D) (as : List α), cLL c ds = some as → ds = as.map e
  | [], as, h => by cases h; rfl
  | d :: ds, as, h => by
    obtain ⟨a, e1, e2⟩ := bind_eq h
    obtain ⟨bs, e3, e4⟩ := bind_eq e2
    cases e4
    rw [List.map_cons, ← cLL_ok hc ds bs e3, ← hc d a e1]
theorem cL_ok {c : D → Option α} (hc : ∀ d a, c d = some a → d = e a) : ∀ (d : D) (as : List α), cL c d = some as → d = eL e as := fun d as h => by
  cases d with
  | lst ds => unfold eL; rw [cLL_ok hc ds as h]
  | _ => cases h
theorem cLL_map {c : D → Option α} (hc : ∀ a, c (e a) = some a) : ∀ as : List α, cLL c (as.map e) = some as
  | [] => rfl
  | a :: as => by
    show (c (e a)).bind (fun a => (cLL c (as.map e)).bind fun as => some (a :: as)) = _
    rw [hc, Option.bind_some, cLL_map hc as]; rfl
@[simp] theorem cI_int (i : Int) : cI (.int i) = some i := rfl
@[simp] theorem cS_str (i : Str) : cS (.str i) = some i := rfl
@[simp] theorem cB_bl (i : Bool) : cB (.bl i) = some i := rfl
@[simp] theorem cL_eL {c : D → Option α} (hc : ∀ a, c (e a) = some a) (as : List α) : cL c (eL e as) = some as := cLL_map hc as
theorem eL_id (ds : List D) : eL eD ds = .lst ds := by unfold eL; rw [List.map_id']
theorem eL_map (xs : List α) : eL eD (xs.map e) = eL e xs := by unfold eL; rw [List.map_map]; rfl
end
/-! ### expressions -/
section
variable {α β γ ρ σ τ : Type} {f g h : Ev} {δ : Env} {e e1 : α → D} {e2 : β → D} {e3 : γ → D} {x : α} {y : β} {z : γ} {T : Option α} {U : Option β} {V : Option γ} {op op' : D → D → Option D} {c : Bool} {p q : Env → Option Bool} {P Q : Option Bool}
theorem lv (i : Nat) (hv : δ[i]? = some (some (e x)) := by rfl) : EvP (vVar i) δ e x := by unfold EvP; rw [vVar_def, hv]; rfl
theorem lc {d : D} (hd : e x = d := by rfl) : EvP (vC d) δ e x := by unfold EvP; rw [vC_def, hd]
theorem l2PP {o : α → β → γ} (h : Tot2 op e1 e2 e3 o) (a : EvP f δ e1 x) (b : EvP g δ e2 y) : EvP (v2 op f g) δ e3 (o x y) := by
  unfold EvP at *; rw [v2_def, a, Option.bind_some, b, Option.bind_some, h]
theorem l2MM {o : α → β → γ} (h : Tot2 op e1 e2 e3 o) (a : EvM f δ e1 T) (b : EvM g δ e2 U) : EvM (v2 op f g) δ e3 (T.bind fun a => U.bind fun b => some (o a b)) := fun r q => by
  obtain ⟨a', q1, q2⟩ := bind_eq q
  obtain ⟨b', q3, q4⟩ := bind_eq q2
  cases q4
  rw [v2_def, a _ q1, Option.bind_some, b _ q3, Option.bind_some, h]
theorem l2MP {o : α → β → γ} (h : Tot2 op e1 e2 e3 o) (a : EvM f δ e1 T) (b : EvP g δ e2 y) : EvM (v2 op f g) δ e3 (T.bind fun a => some (o a y)) := l2MM h a b.m
theorem l2PM {o : α → β → γ} (h : Tot2 op e1 e2 e3 o) (a : EvP f δ e1 x) (b : EvM g δ e2 U) : EvM (v2 op f g) δ e3 (U.bind fun b => some (o x b)) := l2MM h a.m b
theorem k2MM {o : α → β → Option γ} (h : Par2 op e1 e2 e3 o) (a : EvM f δ e1 T) (b : EvM g δ e2 U) : EvM (v2 op f g) δ e3 (T.bind fun a => U.bind fun b => o a b) := fun r q => by
  obtain ⟨a', q1, q2⟩ := bind_eq q
  obtain ⟨b', q3, q4⟩ := bind_eq q2
  rw [v2_def, a _ q1, Option.bind_some, b _ q3, Option.bind_some, h _ _ _ q4]
theorem k2MP {o : α → β → Option γ} (h : Par2 op e1 e2 e3 o) (a : EvM f δ e1 T) (b : EvP g δ e2 y) : EvM (v2 op f g) δ e3 (T.bind fun a => o a y) := k2MM h a b.m
theorem k2PM {o : α → β → Option γ} (h : Par2 op e1 e2 e3 o) (a : EvP f δ e1 x) (b : EvM g δ e2 U) : EvM (v2 op f g) δ e3 (U.bind fun b => o x b) := k2MM h a.m b
theorem k2PP {o : α → β → Option γ} (h : Par2 op e1 e2 e3 o) (a : EvP f δ e1 x) (b : EvP g δ e2 y) : EvM (v2 op f g) δ e3 (o x y) := k2MM h a.m b.m
/-! tests -/
theorem tvP (h : EvP f δ D.bl c) : TsP (vTst f) δ c := by unfold EvP at h; unfold TsP; rw [vTst_def, h]; rfl
theorem tvM (h : EvM f δ D.bl P) : TsM (vTst f) δ P := fun c q => by rw [vTst_def, h c q]; rfl
theorem andPP {d : Bool} (a : TsP p δ c) (b : TsP q δ d) : TsP (bAnd p q) δ (c && d) := by
  unfold TsP at *; rw [bAnd_def, a, Option.bind_some]; cases c <;> simp [b]
theorem andM (a : TsM p δ P) (b : TsM q δ Q) : TsM (bAnd p q) δ (P.bind fun c => if c = true then Q else some false) := fun r z => by
  obtain ⟨c, z1, z2⟩ := bind_eq z
  rw [bAnd_def, a c z1, Option.bind_some]
  cases c with
  | true => rw [if_pos rfl] at z2 ⊢; exact b r z2
  | false => rw [if_neg Bool.false_ne_true] at z2 ⊢; exact z2
theorem andPM (a : TsP p δ c) (b : TsM q δ Q) : TsM (bAnd p q) δ (if c = true then Q else some false) := andM a.m b
theorem orPP {d : Bool} (a : TsP p δ c) (b : TsP q δ d) : TsP (bOr p q) δ (c || d) := by
  unfold TsP at *; rw [bOr_def, a, Option.bind_some]; cases c <;> simp [b]
theorem orM (a : TsM p δ P) (b : TsM q δ Q) : TsM (bOr p q) δ (P.bind fun c => if c = true then some true else Q) := fun r z => by
  obtain ⟨c, z1, z2⟩ := bind_eq z
  rw [bOr_def, a c z1, Option.bind_some]
  cases c with
  | true => rw [if_pos rfl] at z2 ⊢; exact z2
  | false => rw [if_neg Bool.false_ne_true] at z2 ⊢; exact b r z2
theorem orPM (a : TsP p δ c) (b : TsM q δ Q) : TsM (bOr p q) δ (if c = true then some true else Q) := orM a.m b
theorem notP (a : TsP p δ c) : TsP (bNot p) δ (!c) := by unfold TsP at *; rw [bNot_def, a]; rfl
theorem notM (a : TsM p δ P) : TsM (bNot p) δ (P.bind fun c => some (!c)) := fun r z => by
  obtain ⟨c, z1, z2⟩ := bind_eq z
  cases z2
  rw [bNot_def, a c z1]; rfl
/-! .. as values -/
theorem vandPP {d : Bool} (a : EvP f δ D.bl c) (b : EvP g δ D.bl d) : EvP (vAnd f g) δ D.bl (c && d) := by
  unfold EvP at *; rw [vAnd_def, vTst_def, a]; cases c <;> simp [b]
theorem vandM (a : EvM f δ D.bl P) (b : EvM g δ D.bl Q) : EvM (vAnd f g) δ D.bl (P.bind fun c => if c = true then Q else some false) := fun r z => by
  obtain ⟨c, z1, z2⟩ := bind_eq z
  rw [vAnd_def, tvM a c z1, Option.bind_some]
  cases c with
  | true => rw [if_pos rfl] at z2 ⊢; exact b r z2
  | false => rw [if_neg Bool.false_ne_true] at z2 ⊢; cases z2; rfl
theorem vandPM (a : EvP f δ D.bl c) (b : EvM g δ D.bl Q) : EvM (vAnd f g) δ D.bl (if c = true then Q else some false) := vandM a.m b
theorem vorPP {d : Bool} (a : EvP f δ D.bl c) (b : EvP g δ D.bl d) : EvP (vOr f g) δ D.bl (c || d) := by
  unfold EvP at *; rw [vOr_def, vTst_def, a]; cases c <;> simp [b]
theorem vorM (a : EvM f δ D.bl P) (b : EvM g δ D.bl Q) : EvM (vOr f g) δ D.bl (P.bind fun c => if c = true then some true else Q) := fun r z => by
  obtain ⟨c, z1, z2⟩ := bind_eq z
  rw [vOr_def, tvM a c z1, Option.bind_some]
  cases c with
  | true => rw [if_pos rfl] at z2 ⊢; cases z2; rfl
  | false => rw [if_neg Bool.false_ne_true] at z2 ⊢; exact b r z2
theorem vorPM (a : EvP f δ D.bl c) (b : EvM g δ D.bl Q) : EvM (vOr f g) δ D.bl (if c = true then some true else Q) := vorM a.m b
theorem vnotP (a : EvP f δ D.bl c) : EvP (vNot f) δ D.bl (!c) := by unfold EvP at *; rw [vNot_def, vTst_def, a]; rfl
theorem vnotM (a : EvM f δ D.bl P) : EvM (vNot f) δ D.bl (P.bind fun c => some (!c)) := fun r z => by
  obtain ⟨c, z1, z2⟩ := bind_eq z
  cases z2
  rw [vNot_def, tvM a c z1]; rfl
theorem ifPPP {y : α} (c' : TsP p δ c) (a : EvP f δ e x) (b : EvP g δ e y) : EvP (vIf p f g) δ e (if c = true then x else y) := by
  unfold EvP TsP at *; rw [vIf_def, c', Option.bind_some]; cases c <;> simp [a, b]
theorem ifM {U : Option α} (c' : TsM p δ P) (a : EvM f δ e T) (b : EvM g δ e U) : EvM (vIf p f g) δ e (P.bind fun c => if c = true then T else U) := fun r z => by
  obtain ⟨c, z1, z2⟩ := bind_eq z
  rw [vIf_def, c' c z1, Option.bind_some]
  cases c with
  | true => rw [if_pos rfl] at z2 ⊢; exact a r z2
  | false => rw [if_neg Bool.false_ne_true] at z2 ⊢; exact b r z2
theorem ifPM {U : Option α} (c' : TsP p δ c) (a : EvM f δ e T) (b : EvM g δ e U) : EvM (vIf p f g) δ e (if c = true then T else U) := ifM c'.m a b
theorem negP {i : Int} (a : EvP f δ D.int i) : EvP (vNeg f) δ D.int (-i) := by unfold EvP at *; rw [vNeg_def, a]; rfl
theorem negM {I : Option Int} (a : EvM f δ D.int I) : EvM (vNeg f) δ D.int (I.bind fun i => some (-i)) := fun r z => by
  obtain ⟨c, z1, z2⟩ := bind_eq z
  cases z2
  rw [vNeg_def, a c z1]; rfl
/-! a < b < c -/
theorem chP {o : α → β → Bool} {o' : β → γ → Bool} (h1 : Tot2 op e1 e2 D.bl o) (h2 : Tot2 op' e2 e3 D.bl o') (a : EvP f δ e1 x) (b : EvP g δ e2 y) (c : EvP h δ e3 z) : EvP (vChain op op' f g h) δ D.bl (o x y && o' y z) := by
  unfold EvP at *
  rw [vChain_def, a, Option.bind_some, b, Option.bind_some, h1, Option.bind_some]
  cases o x y <;> simp [c, h2 y z]
theorem chM {o : α → β → Bool} {o' : β → γ → Bool} (h1 : Tot2 op e1 e2 D.bl o) (h2 : Tot2 op' e2 e3 D.bl o') (a : EvM f δ e1 T) (b : EvM g δ e2 U) (c : EvM h δ e3 V) : EvM (vChain op op' f g h) δ D.bl (T.bind fun x => U.bind fun y => if o x y = true then V.bind fun z => some (o' y z) else some false) := fun r q => by
  obtain ⟨x, q1, q2⟩ := bind_eq q
  obtain ⟨y, q3, q4⟩ := bind_eq q2
  rw [vChain_def, a _ q1, Option.bind_some, b _ q3, Option.bind_some, h1, Option.bind_some]
  cases w : o x y with
  | true =>
    rw [w, if_pos rfl] at q4
    obtain ⟨z, q5, q6⟩ := bind_eq q4
    cases q6
    simp [c _ q5, h2 y z]
  | false =>
    rw [w, if_neg Bool.false_ne_true] at q4
    cases q4
    simp
/-! arguments, calls -/
variable {fr : Env → Option (List D)} {k : List D → Option D}
theorem arPnil (h : k [] = some (e x)) : ArP aNil δ k e x := h
theorem arPcons (a : EvP f δ e2 y) (r : ArP fr δ (fun ds => k (e2 y :: ds)) e x) : ArP (aCons f fr) δ k e x := by
  unfold ArP EvP at *
  rw [aCons_def, a, Option.bind_some]
  rw [← r]
  cases fr δ <;> rfl
theorem arMnil (h : ∀ x, T = some x → k [] = some (e x)) : ArM aNil δ k e T := h
theorem arMconsP (a : EvP f δ e2 y) (r : ArM fr δ (fun ds => k (e2 y :: ds)) e T) : ArM (aCons f fr) δ k e T := fun x q => by
  have := r x q
  unfold EvP at a
  rw [aCons_def, a, Option.bind_some, ← this]
  cases fr δ <;> rfl
theorem arMconsM {K : β → Option α} (a : EvM f δ e2 U) (r : ∀ y, ArM fr δ (fun ds => k (e2 y :: ds)) e (K y)) : ArM (aCons f fr) δ k e (U.bind K) := fun x q => by
  obtain ⟨y, q1, q2⟩ := bind_eq q
  have := r y x q2
  rw [aCons_def, a _ q1, Option.bind_some, ← this]
  cases fr δ <;> rfl
theorem callP (h : ArP fr δ k e x) : EvP (vC1 k fr) δ e x := h
theorem callM (h : ArM fr δ k e T) : EvM (vC1 k fr) δ e T := h
def kTup (ds : List D) : Option D := if ds.length ≤ 1000 then some (.tup ds) else none
def kLst (ds : List D) : Option D := if ds.length ≤ 1000 then some (.lst ds) else none
theorem tupP (h : ArP fr δ kTup e x) : EvP (vTup fr) δ e x := h
theorem tupM (h : ArM fr δ kTup e T) : EvM (vTup fr) δ e T := h
theorem lstP (h : ArP fr δ kLst e x) : EvP (vLst fr) δ e x := h
theorem lstM (h : ArM fr δ kLst e T) : EvM (vLst fr) δ e T := h
/-- a method of a text -/
def kStr (op : Str → List D → Option D) (d : D) (ds : List D) : Option D := match d with | .str x => op x ds | _ => none
theorem vM_eq {op : Str → List D → Option D} {d : D} (h : f δ = some d) : vM op f fr δ = (fr δ).bind (kStr op d) := by
  rw [vM_def, h]; rfl
theorem smP {op : Str → List D → Option D} {s : Str} (a : EvP f δ D.str s) (r : ArP fr δ (op s) e x) : EvP (vM op f fr) δ e x := by
  unfold EvP at *; rw [vM_eq a]; exact r
theorem smMP {op : Str → List D → Option D} {s : Str} (a : EvP f δ D.str s) (r : ArM fr δ (op s) e T) : EvM (vM op f fr) δ e T := fun x q => by
  rw [vM_eq a]; exact r x q
theorem smMM {op : Str → List D → Option D} {S : Option Str} {K : Str → Option α} (a : EvM f δ D.str S) (r : ∀ s, ArM fr δ (op s) e (K s)) : EvM (vM op f fr) δ e (S.bind K) := fun x q => by
  obtain ⟨y, q1, q2⟩ := bind_eq q
  rw [vM_eq (a _ q1)]; exact r y x q2
theorem vM0_eq {op : Str → List D → Option D} : vM0 op f δ = vM op f aNil δ := by
  rw [vM0_def, vM_def]; rfl
theorem sm0P {op : Str → List D → Option D} (h : EvP (vM op f aNil) δ e x) : EvP (vM0 op f) δ e x := by unfold EvP at *; rw [vM0_eq]; exact h
theorem sm0M {op : Str → List D → Option D} (h : EvM (vM op f aNil) δ e T) : EvM (vM0 op f) δ e T := fun x q => by rw [vM0_eq]; exact h x q
/-- a field -/
theorem fldP {w : Str} {fs : List (Str × D)} (a : EvP f δ e1 x) (h1 : fldsD (e1 x) = some fs := by rfl) (h2 : fs.lookup w = some (e2 y) := by rfl) : EvP (vFld w f) δ e2 y := by
  unfold EvP at *
  rw [vFld_def, a, Option.bind_some, h1, Option.bind_some, h2]
theorem fldM {w : Str} {G : α → β} (a : EvM f δ e1 T) (h : ∀ x, (fldsD (e1 x)).bind (fun fs => fs.lookup w) = some (e2 (G x)) := by intro _; rfl) : EvM (vFld w f) δ e2 (T.bind fun x => some (G x)) := fun y q => by
  obtain ⟨x, q1, q2⟩ := bind_eq q
  cases q2
  rw [vFld_def, a _ q1, Option.bind_some, h]
/-- an own method -/
theorem meP {c m : Str} {den : List D → Option D} {e1 : β → D} {fs : List (Str × D)} (a : EvP f δ e1 y) (r : ArM fr δ (fun ds => den (e1 y :: ds)) e T) (h1 : e1 y = .ins c fs := by rfl) (h2 : fs.lookup m = none := by rfl) : EvM (vMeth c m den f fr) δ e T := fun x q => by
  have r' := r x q
  unfold EvP at a
  unfold vMeth
  rw [a, Option.bind_some, h1]
  rw [h1] at r'
  show (if c = c ∧ fs.lookup m = none then (fr δ).bind fun ds => den (.ins c fs :: ds) else none) = _
  rw [if_pos ⟨rfl, h2⟩]
  exact r'
theorem meM {c m : Str} {den : List D → Option D} {e1 : β → D} {K : β → Option α} (a : EvM f δ e1 U) (r : ∀ y, ArM fr δ (fun ds => den (e1 y :: ds)) e (K y)) (h : ∀ y, ∃ fs, e1 y = .ins c fs ∧ fs.lookup m = none := by exact fun _ => ⟨_, rfl, rfl⟩) : EvM (vMeth c m den f fr) δ e (U.bind K) := fun x q => by
  obtain ⟨y, q1, q2⟩ := bind_eq q
  obtain ⟨fs, h1, h2⟩ := h y
  have r' := r y x q2
  unfold vMeth
  rw [a _ q1, Option.bind_some, h1]
  rw [h1] at r'
  show (if c = c ∧ fs.lookup m = none then (fr δ).bind fun ds => den (.ins c fs :: ds) else none) = _
  rw [if_pos ⟨rfl, h2⟩]
  exact r'
/-! slices -/
def PtP (l : Env → Option (Option Int)) (δ : Env) (o : Option Int) : Prop := l δ = some o
def PtM (l : Env → Option (Option Int)) (δ : Env) (O : Option (Option Int)) : Prop := ∀ o, O = some o → l δ = some o
theorem PtP.m {l : Env → Option (Option Int)} {o : Option Int} (h : PtP l δ o) : PtM l δ (some o) := fun o q => by cases q; exact h
theorem ptN : PtP (fun _ => some none) δ none := rfl
theorem ptP {i : Int} (a : EvP f δ D.int i) : PtP (vPart f) δ (some i) := by unfold PtP EvP at *; rw [vPart_def, a]; rfl
theorem ptM {I : Option Int} (a : EvM f δ D.int I) : PtM (vPart f) δ (I.bind fun i => some (some i)) := fun o q => by
  obtain ⟨i, q1, q2⟩ := bind_eq q
  cases q2
  rw [vPart_def, a _ q1]; rfl
theorem slP {os : D → Option Int → Option Int → Option D} {l u : Env → Option (Option Int)} {lo hi : Option Int} {o : α → Option Int → Option Int → β} (h : ∀ a lo hi, os (e1 a) lo hi = some (e2 (o a lo hi))) (a : EvP f δ e1 x) (b : PtP l δ lo) (c : PtP u δ hi) : EvP (vSl os f l u) δ e2 (o x lo hi) := by
  unfold EvP PtP at *; rw [vSl_def, a, Option.bind_some, b, Option.bind_some, c, Option.bind_some, h]
theorem slM {os : D → Option Int → Option Int → Option D} {l u : Env → Option (Option Int)} {L H : Option (Option Int)} {o : α → Option Int → Option Int → β} (h : ∀ a lo hi, os (e1 a) lo hi = some (e2 (o a lo hi))) (a : EvM f δ e1 T) (b : PtM l δ L) (c : PtM u δ H) : EvM (vSl os f l u) δ e2 (T.bind fun x => L.bind fun lo => H.bind fun hi => some (o x lo hi)) := fun y q => by
  obtain ⟨x, q1, q2⟩ := bind_eq q
  obtain ⟨lo, q3, q4⟩ := bind_eq q2
  obtain ⟨hi, q5, q6⟩ := bind_eq q4
  cases q6
  rw [vSl_def, a _ q1, Option.bind_some, b _ q3, Option.bind_some, c _ q5, Option.bind_some, h]
/-! comprehensions -/
theorem lcT_ok {set : Hv} {pt : Env → Option Bool} {elt : Ev} {E' : α → Env} {Pf : α → Option Bool} {G : α → Option β} (hs : ∀ x, set (e x) δ = some (E' x)) (hp : ∀ x, TsM pt (E' x) (Pf x)) (hg : ∀ x, EvM elt (E' x) e2 (G x)) : ∀ (xs : List α) (ys : List β), lcT Pf G xs = some ys → lcD set pt elt δ (xs.map e) = some (ys.map e2)
  | [], ys, h => by cases h; rfl
  | x :: xs, ys, h => by
    obtain ⟨b, q1, q2⟩ := bind_eq h
    show ((set (e x) δ).bind fun δ1 => (pt δ1).bind fun b => if b = true then (elt δ1).bind fun y => (lcD set pt elt δ (xs.map e)).map (y :: ·) else lcD set pt elt δ (xs.map e)) = _
    rw [hs, Option.bind_some, hp x b q1, Option.bind_some]
    cases b with
    | true =>
      rw [if_pos rfl] at q2 ⊢
      obtain ⟨y, q3, q4⟩ := bind_eq q2
      obtain ⟨zs, q5, q6⟩ := bind_eq q4
      cases q6
      rw [hg x y q3, Option.bind_some, lcT_ok hs hp hg xs zs q5]
      rfl
    | false =>
      rw [if_neg Bool.false_ne_true] at q2 ⊢
      exact lcT_ok hs hp hg xs ys q2
theorem lcT_pure (Pf : α → Bool) (G : α → β) : ∀ xs : List α, lcT (fun x => some (Pf x)) (fun x => some (G x)) xs = some ((xs.filter Pf).map G)
  | [] => rfl
  | x :: xs => by
    show (some (Pf x)).bind (fun b => if b = true then (some (G x)).bind fun y => (lcT _ _ xs).bind fun ys => some (y :: ys) else lcT _ _ xs) = _
    rw [Option.bind_some, lcT_pure Pf G xs]
    cases q : Pf x with
    | true => rw [if_pos rfl, List.filter_cons_of_pos q]; rfl
    | false => rw [if_neg Bool.false_ne_true, List.filter_cons_of_neg (by rw [q]; exact Bool.false_ne_true)]
variable {it : Env → Option (List D)} {set : Hv} {pt : Env → Option Bool} {elt : Ev} {vs : List Nat} {E' : α → Env} {xs : List α} {X : Option (List α)}
theorem lcPP {Pf : α → Bool} {G : α → β} (hi : ItP it δ e xs) (hs : ∀ x, set (e x) (wipeE δ vs) = some (E' x)) (hp : ∀ x, TsP pt (E' x) (Pf x)) (hg : ∀ x, EvP elt (E' x) e2 (G x)) : EvP (vLc it set pt elt vs) δ (eL e2) ((xs.filter Pf).map G) := by
  unfold EvP ItP at *
  rw [vLc_def, hi, Option.bind_some, lcT_ok hs (fun x => (hp x).m) (fun x => EvP.m (hg x)) xs _ (lcT_pure Pf G xs)]
  rfl
theorem lcPA {G : α → β} (hi : ItP it δ e xs) (hs : ∀ x, set (e x) (wipeE δ vs) = some (E' x)) (hg : ∀ x, EvP elt (E' x) e2 (G x)) : EvP (vLc it set tsYes elt vs) δ (eL e2) (xs.map G) := by
  have := lcPP (Pf := fun _ => true) (e2 := e2) (G := G) hi hs (fun x => (rfl : tsYes (E' x) = some true)) hg
  rwa [List.filter_eq_self.mpr (fun _ _ => rfl)] at this
theorem lcM {Pf : α → Option Bool} {G : α → Option β} (hi : ItM it δ e X) (hs : ∀ x, set (e x) (wipeE δ vs) = some (E' x)) (hp : ∀ x, TsM pt (E' x) (Pf x)) (hg : ∀ x, EvM elt (E' x) e2 (G x)) : EvM (vLc it set pt elt vs) δ (eL e2) (X.bind fun xs => lcT Pf G xs) := fun ys q => by
  obtain ⟨xs, q1, q2⟩ := bind_eq q
  rw [vLc_def, hi xs q1, Option.bind_some, lcT_ok hs hp hg xs ys q2]
  rfl
theorem yesP : TsP tsYes δ true := rfl
end
/-! ### what is walked -/
section
variable {α β : Type} {f : Ev} {fr : Env → Option (List D)} {δ : Env} {e : α → D} {xs : List α} {X : Option (List α)}
theorem itL (a : EvP f δ (eL e) xs) : ItP (iAnyF f) δ e xs := by unfold EvP ItP at *; rw [iAnyF_def, a]; rfl
theorem itLM (a : EvM f δ (eL e) X) : ItM (iAnyF f) δ e X := fun y q => by rw [iAnyF_def, a y q]; rfl
theorem itK (a : EvP f δ (eK e) xs) : ItP (iAnyF f) δ e xs := by unfold EvP ItP at *; rw [iAnyF_def, a]; rfl
theorem itS {ns : List Int} (a : EvP f δ eS ns) : ItP (iAnyF f) δ D.int ns := by unfold EvP ItP at *; rw [iAnyF_def, a]; rfl
def sg1 (c : Nat) : Str := ⟨#[c]⟩
def sgs (s : Str) : List Str := s.cps.toList.map sg1
theorem itT {s : Str} (a : EvP f δ D.str s) : ItP (iAnyF f) δ D.str (sgs s) := by
  unfold EvP ItP at *; rw [iAnyF_def, a]
  show some (signs s) = some ((sgs s).map D.str)
  unfold sgs; rw [List.map_map]; rfl
theorem itTM {s : Option Str} (a : EvM f δ D.str s) : ItM (iAnyF f) δ D.str (s.bind fun s => some (sgs s)) := fun y q => by
  obtain ⟨z, q1, q2⟩ := bind_eq q
  cases q2
  exact itT (f := f) (δ := δ) (a z q1)
def dItems (d : D) : Option (List D) := itemsD d
theorem itD {d : D} (a : EvP f δ eD d) : ItM (iAnyF f) δ eD (dItems d) := fun y q => by
  unfold EvP at a; rw [iAnyF_def, a, Option.bind_some, List.map_id']; exact q
theorem itDM {d : Option D} (a : EvM f δ eD d) : ItM (iAnyF f) δ eD (d.bind dItems) := fun y q => by
  obtain ⟨z, q1, q2⟩ := bind_eq q
  exact itD (f := f) (δ := δ) (a z q1) y q2
def rng (n : Int) : List Int := (List.range n.toNat).map fun (i : Nat) => (i : Int)
def rngT (n : Int) : Option (List Int) := if -1000000 ≤ n ∧ n ≤ 1000000 then some (rng n) else none
def rng2 (a b : Int) : List Int := (List.range (b - a).toNat).map fun (i : Nat) => a + (i : Int)
def rng2T (a b : Int) : Option (List Int) := if -1000000 ≤ a ∧ a ≤ 1000000 ∧ -1000000 ≤ b ∧ b ≤ 1000000 then some (rng2 a b) else none
theorem rng_map (n : Int) : (rng n).map D.int = rngD 0 n.toNat := by
  unfold rng rngD
  rw [List.map_map]
  exact List.map_congr_left fun i _ => by show D.int (i : Int) = D.int (0 + (i : Int)); rw [Int.zero_add]
theorem rng2_map (a b : Int) : (rng2 a b).map D.int = rngD a (b - a).toNat := by
  unfold rng2 rngD
  rw [List.map_map]; rfl
theorem itR {i : Int} (a : EvP f δ D.int i) : ItM (iRngF1 (aCons f aNil)) δ D.int (rngT i) := fun y q => by
  unfold EvP at a
  unfold rngT at q
  split at q
  · rename_i h
    cases q
    show (aCons f aNil δ).bind _ = _
    rw [aCons_def, a, rng_map]
    show (if -1000000 ≤ i ∧ i ≤ 1000000 then some (rngD 0 i.toNat) else none) = _
    rw [if_pos h]
  · cases q
theorem itRM {I : Option Int} (a : EvM f δ D.int I) : ItM (iRngF1 (aCons f aNil)) δ D.int (I.bind rngT) := fun y q => by
  obtain ⟨z, q1, q2⟩ := bind_eq q
  exact itR (f := f) (δ := δ) (a z q1) y q2
/-- a written bound -/
theorem itRc {i : Int} (a : EvP f δ D.int i) (h : -1000000 ≤ i ∧ i ≤ 1000000 := by decide) : ItP (iRngF1 (aCons f aNil)) δ D.int (rng i) := itR a (rng i) (if_pos h)
theorem itR2M {g : Ev} {I J : Option Int} (a : EvM f δ D.int I) (b : EvM g δ D.int J) : ItM (iRngF2 (aCons f (aCons g aNil))) δ D.int (I.bind fun i => J.bind fun j => rng2T i j) := fun y q => by
  obtain ⟨i, q1, q2⟩ := bind_eq q
  obtain ⟨j, q3, q4⟩ := bind_eq q2
  unfold rng2T at q4
  split at q4
  · rename_i h
    cases q4
    show (aCons f (aCons g aNil) δ).bind _ = _
    rw [aCons_def, a _ q1, Option.bind_some, aCons_def, b _ q3, rng2_map]
    show (if -1000000 ≤ i ∧ i ≤ 1000000 ∧ -1000000 ≤ j ∧ j ≤ 1000000 then some (rngD i (j - i).toNat) else none) = _
    rw [if_pos h]
  · cases q4
end
/-! ### statements -/
section
variable {α β γ ρ σ : Type} {f : Ev} {s s' A B : Sv} {δ : Env} {e : α → D} {x : α} {T : Option α} {g : β → Out} {R : Option β} {p : Env → Option Bool} {c : Bool} {P : Option Bool} {i : Nat}
theorem stRet (a : EvP f δ e x) : St (sRet f) δ (fun r => .rt (e r)) (some x) := fun r q => by cases q; unfold EvP at a; rw [sRet_def, a]; rfl
theorem stRetM (a : EvM f δ e T) : St (sRet f) δ (fun r => .rt (e r)) T := fun r q => by rw [sRet_def, a r q]; rfl
theorem stRetC {E : σ → Env} (a : EvP f δ e x) : St (sRet f) δ (outF E e) (some (.rt x)) := fun r q => by cases q; unfold EvP at a; rw [sRet_def, a]; rfl
theorem stRetCM {E : σ → Env} (a : EvM f δ e T) : St (sRet f) δ (outF E e) (T.bind fun r => some (.rt r)) := fun r q => by
  obtain ⟨x, q1, q2⟩ := bind_eq q
  cases q2
  rw [sRet_def, a x q1]; rfl
theorem stRetN (h : e x = .non := by rfl) : St sRetN δ (fun r => .rt (e r)) (some x) := fun r q => by cases q; rw [sRetN_def]; show _ = some (Out.rt (e x)); rw [h]
theorem stRetNC {E : σ → Env} (h : e x = .non := by rfl) : St sRetN δ (outF E e) (some (.rt x)) := fun r q => by cases q; rw [sRetN_def]; show _ = some (Out.rt (e x)); rw [h]
theorem stNext {E : σ → Env} (v : σ) (h : E v = δ := by rfl) : St sNext δ (fun v => .nx (E v)) (some v) := fun r q => by cases q; rw [sNext_def]; show _ = some (Out.nx (E v)); rw [h]
theorem stNextC {E : σ → Env} {e : ρ → D} (v : σ) (h : E v = δ := by rfl) : St sNext δ (outF E e) (some (.nx v)) := fun r q => by cases q; rw [sNext_def]; show _ = some (Out.nx (E v)); rw [h]
theorem stWip {vs : List Nat} (h : St s (wipeE δ vs) g R) : St (sWip vs s) δ g R := h
theorem stNo {g : β → Out} : St sNo δ g none := fun r q => by cases q
/-- name = value; what follows -/
theorem stSet {K : α → Option β} (a : EvP f δ e x) (h : ∀ v, St s' (δ.set i (some (e v))) g (K v)) : St (sSeq (sSet i f) s') δ g (lett x K) := fun r q => by
  unfold EvP at a
  rw [sSeq_def, sSet_def, a]
  exact h x r q
theorem stSetI (a : EvP f δ e x) (h : St s' (δ.set i (some (e x))) g R) : St (sSeq (sSet i f) s') δ g R := fun r q => by
  unfold EvP at a
  rw [sSeq_def, sSet_def, a]
  exact h r q
theorem stSetM {K : α → Option β} (a : EvM f δ e T) (h : ∀ v, St s' (δ.set i (some (e v))) g (K v)) : St (sSeq (sSet i f) s') δ g (T.bind K) := fun r q => by
  obtain ⟨x, q1, q2⟩ := bind_eq q
  rw [sSeq_def, sSet_def, a x q1]
  exact h x r q2
theorem stAsg {set : Hv} {K : α → Option β} {E' : α → Env} (a : EvP f δ e x) (hs : ∀ v, set (e v) δ = some (E' v)) (h : ∀ v, St s' (E' v) g (K v)) : St (sSeq (sAsg f set) s') δ g (lett x K) := fun r q => by
  unfold EvP at a
  rw [sSeq_def, sAsg_def, a, Option.bind_some, hs]
  exact h x r q
theorem stAsgM {set : Hv} {K : α → Option β} {E' : α → Env} (a : EvM f δ e T) (hs : ∀ v, set (e v) δ = some (E' v)) (h : ∀ v, St s' (E' v) g (K v)) : St (sSeq (sAsg f set) s') δ g (T.bind K) := fun r q => by
  obtain ⟨x, q1, q2⟩ := bind_eq q
  rw [sSeq_def, sAsg_def, a x q1, Option.bind_some, hs]
  exact h x r q2
theorem stExpr (a : EvP f δ e x) (h : St s' δ g R) : St (sSeq (sExpr f) s') δ g R := fun r q => by
  unfold EvP at a
  rw [sSeq_def, sExpr_def, a]
  exact h r q
theorem stExprM (a : EvM f δ e T) (h : St s' δ g R) : St (sSeq (sExpr f) s') δ g (T.bind fun _ => R) := fun r q => by
  obtain ⟨x, q1, q2⟩ := bind_eq q
  rw [sSeq_def, sExpr_def, a x q1]
  exact h r q2
/-- a block that never goes on -/
def NoNx (s : Sv) : Prop := ∀ δ δ', s δ ≠ some (.nx δ')
theorem nnRet : NoNx (sRet f) := fun δ δ' h => by
  rw [sRet_def] at h
  cases q : f δ with
  | none => rw [q] at h; cases h
  | some d => rw [q] at h; cases h
theorem nnRetN : NoNx sRetN := fun δ δ' h => by cases h
theorem nnNo : NoNx sNo := fun δ δ' h => by cases h
theorem nnSeq (h : NoNx s') : NoNx (sSeq s s') := fun δ δ' q => by
  rw [sSeq_def] at q
  obtain ⟨o, q1, q2⟩ := bind_eq q
  cases o with
  | nx δ1 => exact h _ _ q2
  | rt d => cases q2
  | ex c fs => cases q2
theorem nnWip {vs : List Nat} (h : NoNx s) : NoNx (sWip vs s) := fun δ δ' q => h _ _ q
theorem nnIf (a : NoNx A) (b : NoNx B) : NoNx (sIf p A B) := fun δ δ' q => by
  rw [sIf_def] at q
  obtain ⟨o, q1, q2⟩ := bind_eq q
  cases o with
  | true => rw [if_pos rfl] at q2; exact a _ _ q2
  | false => rw [if_neg Bool.false_ne_true] at q2; exact b _ _ q2
theorem stIf {TA TB : Option β} (h : TsP p δ c) (a : St A δ g TA) (b : St B δ g TB) : St (sIf p A B) δ g (if c = true then TA else TB) := fun r q => by
  unfold TsP at h
  rw [sIf_def, h, Option.bind_some]
  cases c with
  | true => rw [if_pos rfl] at q ⊢; exact a r q
  | false => rw [if_neg Bool.false_ne_true] at q ⊢; exact b r q
theorem stIfM {TA TB : Option β} (h : TsM p δ P) (a : St A δ g TA) (b : St B δ g TB) : St (sIf p A B) δ g (P.bind fun c => if c = true then TA else TB) := fun r q => by
  obtain ⟨c, q1, q2⟩ := bind_eq q
  exact stIf (h c q1) a b r q2
theorem seq_end {o : Out} (n : NoNx A) (h : A δ = some o) : sSeq A s' δ = some o := by
  rw [sSeq_def, h, Option.bind_some]
  cases o with
  | nx δ' => exact (n _ _ h).elim
  | rt d => rfl
  | ex c fs => rfl
/-- the first branch ends, the other goes on -/
theorem stIfT {TA TB : Option β} (n : NoNx A) (h : TsP p δ c) (a : St A δ g TA) (b : St (sSeq B s') δ g TB) : St (sSeq (sIf p A B) s') δ g (if c = true then TA else TB) := fun r q => by
  unfold TsP at h
  cases c with
  | true =>
    rw [if_pos rfl] at q
    have : sIf p A B δ = A δ := by rw [sIf_def, h]; rfl
    rw [sSeq_def, this, ← sSeq_def]
    exact seq_end n (a r q)
  | false =>
    rw [if_neg Bool.false_ne_true] at q
    have : sIf p A B δ = B δ := by rw [sIf_def, h]; rfl
    rw [sSeq_def, this, ← sSeq_def]
    exact b r q
theorem stIfTM {TA TB : Option β} (n : NoNx A) (h : TsM p δ P) (a : St A δ g TA) (b : St (sSeq B s') δ g TB) : St (sSeq (sIf p A B) s') δ g (P.bind fun c => if c = true then TA else TB) := fun r q => by
  obtain ⟨c, q1, q2⟩ := bind_eq q
  exact stIfT n (h c q1) a b r q2
theorem stIfE {TA TB : Option β} (n : NoNx B) (h : TsP p δ c) (a : St (sSeq A s') δ g TA) (b : St B δ g TB) : St (sSeq (sIf p A B) s') δ g (if c = true then TA else TB) := fun r q => by
  unfold TsP at h
  cases c with
  | true =>
    rw [if_pos rfl] at q
    have : sIf p A B δ = A δ := by rw [sIf_def, h]; rfl
    rw [sSeq_def, this, ← sSeq_def]
    exact a r q
  | false =>
    rw [if_neg Bool.false_ne_true] at q
    have : sIf p A B δ = B δ := by rw [sIf_def, h]; rfl
    rw [sSeq_def, this, ← sSeq_def]
    exact seq_end n (b r q)
theorem stIfEM {TA TB : Option β} (n : NoNx B) (h : TsM p δ P) (a : St (sSeq A s') δ g TA) (b : St B δ g TB) : St (sSeq (sIf p A B) s') δ g (P.bind fun c => if c = true then TA else TB) := fun r q => by
  obtain ⟨c, q1, q2⟩ := bind_eq q
  exact stIfE n (h c q1) a b r q2
theorem stSkip (h : St s' δ g R) : St (sSeq sNext s') δ g R := h
theorem seq_assoc {a b c : Sv} : sSeq (sSeq a b) c δ = sSeq a (sSeq b c) δ := by
  rw [sSeq_def, sSeq_def, sSeq_def]
  cases a δ with
  | none => rfl
  | some o => cases o <;> rfl
theorem stAss {a b : Sv} (h : St (sSeq a (sSeq b s')) δ g R) : St (sSeq (sSeq a b) s') δ g R := fun r q => by rw [seq_assoc]; exact h r q
theorem stWipSeq {vs : List Nat} (h : St (sSeq s s') (wipeE δ vs) g R) : St (sSeq (sWip vs s) s') δ g R := h
/-- a part that goes on, then the rest -/
theorem stSeq {E : σ → Env} {T : Option σ} {K : σ → Option β} (a : St s δ (fun v => .nx (E v)) T) (h : ∀ v, St s' (E v) g (K v)) : St (sSeq s s') δ g (T.bind K) := fun r q => by
  obtain ⟨v, q1, q2⟩ := bind_eq q
  rw [sSeq_def, a v q1]
  exact h v r q2
/-- a part that goes on or hands back -/
theorem stSeqC {E : σ → Env} {e : ρ → D} {T : Option (Ctl σ ρ)} {K : σ → Option β} {Rr : ρ → β} (a : St s δ (outF E e) T) (h : ∀ v, St s' (E v) g (K v)) (hR : ∀ r, g (Rr r) = .rt (e r) := by intro _; rfl) : St (sSeq s s') δ g (bindC T K Rr) := fun r q => by
  obtain ⟨c, q1, q2⟩ := bind_eq q
  cases c with
  | nx v =>
    rw [sSeq_def, a _ q1]
    exact h v r q2
  | rt y =>
    cases q2
    rw [sSeq_def, a _ q1, hR]
    rfl
/-- a part that only goes on, where handing back is let -/
theorem stUp {E : σ → Env} {e : ρ → D} {T : Option σ} (a : St s δ (fun v => .nx (E v)) T) : St s δ (outF E e) (T.bind fun v => some (.nx v)) := fun r q => by
  obtain ⟨v, q1, q2⟩ := bind_eq q
  cases q2
  exact a v q1
variable {it : Env → Option (List D)} {set : Hv} {body : Sv} {xs : List α} {X : Option (List α)}
theorem foldT_ok {E : σ → Env} {E' : σ → α → Env} {Bd : σ → α → Option σ} (hs : ∀ v x, set (e x) (E v) = some (E' v x)) (hb : ∀ v x, St body (E' v x) (fun v => .nx (E v)) (Bd v x)) : ∀ (xs : List α) (v r : σ), foldT Bd xs v = some r → forD set body (xs.map e) (E v) = some (.nx (E r))
  | [], v, r, h => by cases h; rfl
  | x :: xs, v, r, h => by
    obtain ⟨v', q1, q2⟩ := bind_eq h
    show ((set (e x) (E v)).bind fun δ1 => (body δ1).bind fun o => match o with | .nx δ2 => forD set body (xs.map e) δ2 | o => some o) = _
    rw [hs, Option.bind_some, hb v x v' q1, Option.bind_some]
    exact foldT_ok hs hb xs v' r q2
theorem forT_ok {E : σ → Env} {e2 : ρ → D} {E' : σ → α → Env} {Bd : σ → α → Option (Ctl σ ρ)} (hs : ∀ v x, set (e x) (E v) = some (E' v x)) (hb : ∀ v x, St body (E' v x) (outF E e2) (Bd v x)) : ∀ (xs : List α) (v : σ) (r : Ctl σ ρ), forT Bd xs v = some r → forD set body (xs.map e) (E v) = some (outF E e2 r)
  | [], v, r, h => by cases h; rfl
  | x :: xs, v, r, h => by
    obtain ⟨c, q1, q2⟩ := bind_eq h
    show ((set (e x) (E v)).bind fun δ1 => (body δ1).bind fun o => match o with | .nx δ2 => forD set body (xs.map e) δ2 | o => some o) = _
    rw [hs, Option.bind_some, hb v x c q1, Option.bind_some]
    cases c with
    | nx v' => exact forT_ok hs hb xs v' r q2
    | rt y => cases q2; rfl
theorem stFor {E : σ → Env} {E' : σ → α → Env} {Bd : σ → α → Option σ} (v0 : σ) (hi : ItP it δ e xs) (h0 : E v0 = δ) (hs : ∀ v x, set (e x) (E v) = some (E' v x)) (hb : ∀ v x, St body (E' v x) (fun v => .nx (E v)) (Bd v x)) : St (sFor it set body) δ (fun v => .nx (E v)) (foldT Bd xs v0) := fun r q => by
  unfold ItP at hi
  rw [sFor_def, hi, Option.bind_some, ← h0]
  exact foldT_ok hs hb xs v0 r q
theorem stForM {E : σ → Env} {E' : σ → α → Env} {Bd : σ → α → Option σ} (v0 : σ) (hi : ItM it δ e X) (h0 : E v0 = δ) (hs : ∀ v x, set (e x) (E v) = some (E' v x)) (hb : ∀ v x, St body (E' v x) (fun v => .nx (E v)) (Bd v x)) : St (sFor it set body) δ (fun v => .nx (E v)) (X.bind fun xs => foldT Bd xs v0) := fun r q => by
  obtain ⟨xs, q1, q2⟩ := bind_eq q
  exact stFor v0 (hi xs q1) h0 hs hb r q2
theorem stForC {E : σ → Env} {e2 : ρ → D} {E' : σ → α → Env} {Bd : σ → α → Option (Ctl σ ρ)} (v0 : σ) (hi : ItP it δ e xs) (h0 : E v0 = δ) (hs : ∀ v x, set (e x) (E v) = some (E' v x)) (hb : ∀ v x, St body (E' v x) (outF E e2) (Bd v x)) : St (sFor it set body) δ (outF E e2) (forT Bd xs v0) := fun r q => by
  unfold ItP at hi
  rw [sFor_def, hi, Option.bind_some, ← h0]
  exact forT_ok hs hb xs v0 r q
theorem stForCM {E : σ → Env} {e2 : ρ → D} {E' : σ → α → Env} {Bd : σ → α → Option (Ctl σ ρ)} (v0 : σ) (hi : ItM it δ e X) (h0 : E v0 = δ) (hs : ∀ v x, set (e x) (E v) = some (E' v x)) (hb : ∀ v x, St body (E' v x) (outF E e2) (Bd v x)) : St (sFor it set body) δ (outF E e2) (X.bind fun xs => forT Bd xs v0) := fun r q => by
  obtain ⟨xs, q1, q2⟩ := bind_eq q
  exact stForC v0 (hi xs q1) h0 hs hb r q2
theorem whN_ok {E : σ → Env} {Pw : σ → Option Bool} {Bd : σ → Option σ} (hp : ∀ v, TsM p (E v) (Pw v)) (hb : ∀ v, St body (E v) (fun v => .nx (E v)) (Bd v)) : ∀ (n : Nat) (v r : σ), whN Pw Bd n v = some r → whileD p body n (E v) = some (.nx (E r))
  | 0, v, r, h => by cases h
  | n + 1, v, r, h => by
    obtain ⟨c, q1, q2⟩ := bind_eq h
    show ((p (E v)).bind fun b => if b = true then (body (E v)).bind fun o => match o with | .nx δ1 => whileD p body n δ1 | o => some o else some (.nx (E v))) = _
    rw [hp v c q1, Option.bind_some]
    cases c with
    | true =>
      rw [if_pos rfl] at q2 ⊢
      obtain ⟨v', q3, q4⟩ := bind_eq q2
      rw [hb v v' q3, Option.bind_some]
      exact whN_ok hp hb n v' r q4
    | false => rw [if_neg Bool.false_ne_true] at q2 ⊢; cases q2; rfl
theorem stWhile {E : σ → Env} {Pw : σ → Option Bool} {Bd : σ → Option σ} (v0 : σ) (h0 : E v0 = δ) (hp : ∀ v, TsM p (E v) (Pw v)) (hb : ∀ v, St body (E v) (fun v => .nx (E v)) (Bd v)) : St (sWhile p body) δ (fun v => .nx (E v)) (whN Pw Bd fuel v0) := fun r q => by
  rw [← h0]; exact whN_ok hp hb fuel v0 r q
/-! lists changed in their place -/
def appT (xs : List α) (x : α) : Option (List α) := if xs.length < sizeLine then some (xs ++ [x]) else none
def extT (xs ys : List α) : Option (List α) := if xs.length + ys.length ≤ sizeLine then some (xs ++ ys) else none
theorem app_eq {xs v : List α} (h : appT xs x = some v) (hf : f δ = some (e x)) (hv : δ[i]? = some (some (eL e xs))) : sApp i f δ = some (.nx (δ.set i (some (eL e v)))) := by
  unfold appT at h
  split at h
  · rename_i c
    cases h
    rw [sApp_def, vVar_def, hv]
    show (match (some (eL e xs) : Option D).bind (fun l => some l) with | _ => _) = _
    simp only [Option.join_some, Option.bind_some, eL]
    rw [hf, Option.bind_some, List.length_map, if_pos c]
    show some (Out.nx _) = _
    rw [List.map_append]; rfl
  · cases h
theorem stApp {K : List α → Option β} (a : EvP f δ e x) (h : ∀ v, St s' (δ.set i (some (eL e v))) g (K v)) (hv : δ[i]? = some (some (eL e xs)) := by rfl) : St (sSeq (sApp i f) s') δ g ((appT xs x).bind K) := fun r q => by
  obtain ⟨v, q1, q2⟩ := bind_eq q
  rw [sSeq_def, app_eq q1 a hv]
  exact h v r q2
theorem stAppM {K : List α → Option β} (a : EvM f δ e T) (h : ∀ v, St s' (δ.set i (some (eL e v))) g (K v)) (hv : δ[i]? = some (some (eL e xs)) := by rfl) : St (sSeq (sApp i f) s') δ g (T.bind fun x => (appT xs x).bind K) := fun r q => by
  obtain ⟨x, q1, q2⟩ := bind_eq q
  exact stApp (show EvP f δ e x from a x q1) h hv r q2
end
end Dl
/-! L: what the operations tell of typed values. -/
namespace Dl
open PySem L2
/-! ### ints -/
theorem t_add : Tot2 opAdd D.int D.int D.int (fun a b => a + b) := fun _ _ => rfl
theorem t_sub : Tot2 opSub D.int D.int D.int (fun a b => a - b) := fun _ _ => rfl
theorem t_lt : Tot2 opLt D.int D.int D.bl (fun a b => decide (a < b)) := fun _ _ => rfl
theorem t_le : Tot2 opLe D.int D.int D.bl (fun a b => decide (a ≤ b)) := fun _ _ => rfl
theorem t_gt : Tot2 opGt D.int D.int D.bl (fun a b => decide (b < a)) := fun _ _ => rfl
theorem t_ge : Tot2 opGe D.int D.int D.bl (fun a b => decide (b ≤ a)) := fun _ _ => rfl
def mulT (a b : Int) : Option Int := if mulOk a b then some (a * b) else none
def modT (a b : Int) : Option Int := if 0 < b then some (a % b) else none
def divT (a b : Int) : Option Int := if 0 < b ∧ b < 1073741824 then some (a / b) else none
theorem p_mul : Par2 opMulI D.int D.int D.int mulT := fun a b c h => by
  unfold mulT at h
  rw [opMulI_ii]
  split at h
  · rename_i q; cases h; rw [if_pos q]
  · cases h
theorem p_mod : Par2 opMod D.int D.int D.int modT := fun a b c h => by
  unfold modT at h
  rw [opMod_ii]
  split at h
  · rename_i q; cases h; rw [if_pos q]
  · cases h
theorem p_div : Par2 opDiv D.int D.int D.int divT := fun a b c h => by
  unfold divT at h
  rw [opDiv_ii]
  split at h
  · rename_i q; cases h; rw [if_pos q]
  · cases h
theorem modT_ok {a b : Int} (h : 0 < b) : modT a b = some (a % b) := if_pos h
theorem divT_ok {a b : Int} (h : 0 < b) (h2 : b < 1073741824) : divT a b = some (a / b) := if_pos ⟨h, h2⟩
theorem mulT_l {a : Int} (b : Int) (h : -(2 ^ 64) < a ∧ a < 2 ^ 64) : mulT a b = some (a * b) := if_pos (mulOk_l b h)
theorem mulT_r (a : Int) {b : Int} (h : -(2 ^ 64) < b ∧ b < 2 ^ 64) : mulT a b = some (a * b) := if_pos (mulOk_r a h)
section
variable {f g : Ev} {δ : Env} {a : Int} {A : Option Int}
/-- by a written number -/
theorem modK {k : Int} (h : EvP f δ D.int a) (hk : 0 < k := by decide) : EvP (v2 opMod f (vC (.int k))) δ D.int (a % k) := by
  unfold EvP at *; rw [v2_def, h, Option.bind_some, vC_def, Option.bind_some, opMod_ii, if_pos hk]
theorem modKM {k : Int} (h : EvM f δ D.int A) (hk : 0 < k := by decide) : EvM (v2 opMod f (vC (.int k))) δ D.int (A.bind fun a => some (a % k)) := fun r q => by
  obtain ⟨a, q1, q2⟩ := bind_eq q; cases q2; exact modK (h a q1) hk
theorem divK {k : Int} (h : EvP f δ D.int a) (hk : 0 < k ∧ k < 1073741824 := by decide) : EvP (v2 opDiv f (vC (.int k))) δ D.int (a / k) := by
  unfold EvP at *; rw [v2_def, h, Option.bind_some, vC_def, Option.bind_some, opDiv_ii, if_pos hk]
theorem divKM {k : Int} (h : EvM f δ D.int A) (hk : 0 < k ∧ k < 1073741824 := by decide) : EvM (v2 opDiv f (vC (.int k))) δ D.int (A.bind fun a => some (a / k)) := fun r q => by
  obtain ⟨a, q1, q2⟩ := bind_eq q; cases q2; exact divK (h a q1) hk
theorem mulK {k : Int} (h : EvP f δ D.int a) (hk : -(2 ^ 64) < k ∧ k < 2 ^ 64 := by decide) : EvP (v2 opMulI f (vC (.int k))) δ D.int (a * k) := by
  unfold EvP at *; rw [v2_def, h, Option.bind_some, vC_def, Option.bind_some, opMulI_ii, if_pos (mulOk_r a hk)]
theorem mulKM {k : Int} (h : EvM f δ D.int A) (hk : -(2 ^ 64) < k ∧ k < 2 ^ 64 := by decide) : EvM (v2 opMulI f (vC (.int k))) δ D.int (A.bind fun a => some (a * k)) := fun r q => by
  obtain ⟨a, q1, q2⟩ := bind_eq q; cases q2; exact mulK (h a q1) hk
theorem Kmul {k : Int} (h : EvP f δ D.int a) (hk : -(2 ^ 64) < k ∧ k < 2 ^ 64 := by decide) : EvP (v2 opMulI (vC (.int k)) f) δ D.int (k * a) := by
  unfold EvP at *; rw [v2_def, vC_def, Option.bind_some, h, Option.bind_some, opMulI_ii, if_pos (mulOk_l a hk)]
theorem KmulM {k : Int} (h : EvM f δ D.int A) (hk : -(2 ^ 64) < k ∧ k < 2 ^ 64 := by decide) : EvM (v2 opMulI (vC (.int k)) f) δ D.int (A.bind fun a => some (k * a)) := fun r q => by
  obtain ⟨a, q1, q2⟩ := bind_eq q; cases q2; exact Kmul (h a q1) hk
theorem powK {i j : Int} (h : 0 ≤ j ∧ j ≤ 1000000 ∧ i.natAbs < 2 ^ 64 := by decide) : EvP (v2 opPow (vC (.int i)) (vC (.int j))) δ D.int (i ^ j.toNat) := by
  unfold EvP; rw [v2_def, vC_def, Option.bind_some, vC_def, Option.bind_some, opPow_ii, if_pos h]
end
/-! ### equality -/
/-- an encoding into plain data of a depth, one datum a value -/
structure Enc {α : Type} [DecidableEq α] (n : Nat) (e : α → D) : Prop where
  fit : ∀ a, fitN n (e a)
  inj : ∀ a b, D.eqv (e a) (e b) = decide (a = b)
theorem enc_int : Enc 0 D.int := ⟨fun a => fit_int a 0, fun a b => by show (a == b) = _; by_cases h : a = b <;> simp [h]⟩
theorem enc_bl : Enc 0 D.bl := ⟨fun a => fit_bl a 0, fun a b => by cases a <;> cases b <;> rfl⟩
theorem enc_str : Enc 0 D.str := ⟨fun a => fit_str a 0, fun a b => by show (a == b) = _; by_cases h : a = b <;> simp [h]⟩
theorem enc_u : Enc 0 eU := ⟨fun a => fit_non 0, fun a b => rfl⟩
section
variable {α β γ δ' ε ζ : Type} [DecidableEq α] [DecidableEq β] [DecidableEq γ] [DecidableEq δ'] [DecidableEq ε] [DecidableEq ζ] {n m k l j i : Nat} {e : α → D} {e1 : α → D} {e2 : β → D} {e3 : γ → D} {e4 : δ' → D} {e5 : ε → D} {e6 : ζ → D}
theorem fitN.up {d : D} (h : fitN n d) (q : n ≤ m) : fitN m d := ⟨h.1, Nat.le_trans h.2 q⟩
theorem eqvL_eq (h : Enc n e) : ∀ xs ys : List α, PyData.eqvAll (D.pyL (xs.map e)) (D.pyL (ys.map e)) = decide (xs = ys)
  | [], [] => rfl
  | [], y :: ys => by rw [decide_eq_false (by simp)]; rfl
  | x :: xs, [] => by rw [decide_eq_false (by simp)]; rfl
  | x :: xs, y :: ys => by
    show (D.eqv (e x) (e y) && PyData.eqvAll (D.pyL (xs.map e)) (D.pyL (ys.map e))) = _
    rw [h.inj, eqvL_eq h xs ys]
    by_cases c : x = y <;> by_cases c' : xs = ys <;> simp [c, c']
theorem enc_l (h : Enc n e) : Enc (n + 1) (eL e) := ⟨fun a => fit_lst fun d hd => by obtain ⟨x, _, rfl⟩ := List.mem_map.mp hd; exact h.fit x, fun a b => eqvL_eq h a b⟩
theorem enc_k (h : Enc n e) : Enc (n + 1) (eK e) := ⟨fun a => ⟨(fit_all fun d hd => by obtain ⟨x, _, rfl⟩ := List.mem_map.mp hd; exact h.fit x).1, Nat.succ_le_succ (fit_all fun d hd => by obtain ⟨x, _, rfl⟩ := List.mem_map.mp hd; exact h.fit x).2⟩, fun a b => eqvL_eq h a b⟩
theorem enc_t1 (h1 : Enc n e1) : Enc (n + 1) (eT1 e1) := ⟨fun p => fit_tup fun d hd => by rw [List.mem_singleton.mp hd]; exact h1.fit _, fun p q => by
  show (D.eqv (e1 p) (e1 q) && true) = _
  rw [h1.inj]; by_cases c : p = q <;> simp [c]⟩
theorem enc_t2 (h1 : Enc n e1) (h2 : Enc m e2) : Enc (max n m + 1) (eT2 e1 e2) := ⟨fun p => fit_tup fun d hd => by
  rcases List.mem_cons.mp hd with rfl | hd
  · exact (h1.fit _).up (Nat.le_max_left ..)
  · rw [List.mem_singleton.mp hd]; exact (h2.fit _).up (Nat.le_max_right ..), fun p q => by
  show (D.eqv (e1 p.1) (e1 q.1) && (D.eqv (e2 p.2) (e2 q.2) && true)) = _
  rw [h1.inj, h2.inj]
  obtain ⟨a, b⟩ := p; obtain ⟨c, d⟩ := q
  by_cases h : a = c <;> by_cases h' : b = d <;> simp [h, h']⟩
theorem tup_cons_fit {ds : List D} {d : D} (h : fitN n d) (h2 : fitN (m + 1) (.tup ds)) : fitN (max n m + 1) (.tup (d :: ds)) := by
  constructor
  · show (d.py.plain && PyData.plainAll (D.pyL ds)) = true
    rw [h.1]; exact h2.1
  · have := h2.2
    have h3 : PyData.depthAll (D.pyL ds) + 1 ≤ m + 1 := this
    show max d.py.depth (PyData.depthAll (D.pyL ds)) + 1 ≤ max n m + 1
    have := h.2
    omega
theorem enc_t3 (h1 : Enc n e1) (h2 : Enc m e2) (h3 : Enc k e3) : Enc (max n (max m k) + 1) (eT3 e1 e2 e3) := ⟨fun p => tup_cons_fit (h1.fit _) ((enc_t2 h2 h3).fit p.2), fun p q => by
  show (D.eqv (e1 p.1) (e1 q.1) && D.eqv (eT2 e2 e3 p.2) (eT2 e2 e3 q.2)) = _
  rw [h1.inj, (enc_t2 h2 h3).inj]
  obtain ⟨a, b⟩ := p; obtain ⟨c, d⟩ := q
  by_cases h : a = c <;> by_cases h' : b = d <;> simp [h, h']⟩
theorem enc_t4 (h1 : Enc n e1) (h2 : Enc m e2) (h3 : Enc k e3) (h4 : Enc l e4) : Enc (max n (max m (max k l)) + 1) (eT4 e1 e2 e3 e4) := ⟨fun p => tup_cons_fit (h1.fit _) ((enc_t3 h2 h3 h4).fit p.2), fun p q => by
  show (D.eqv (e1 p.1) (e1 q.1) && D.eqv (eT3 e2 e3 e4 p.2) (eT3 e2 e3 e4 q.2)) = _
  rw [h1.inj, (enc_t3 h2 h3 h4).inj]
  obtain ⟨a, b⟩ := p; obtain ⟨c, d⟩ := q
  by_cases h : a = c <;> by_cases h' : b = d <;> simp [h, h']⟩
theorem enc_t5 (h1 : Enc n e1) (h2 : Enc m e2) (h3 : Enc k e3) (h4 : Enc l e4) (h5 : Enc j e5) : Enc (max n (max m (max k (max l j))) + 1) (eT5 e1 e2 e3 e4 e5) := ⟨fun p => tup_cons_fit (h1.fit _) ((enc_t4 h2 h3 h4 h5).fit p.2), fun p q => by
  show (D.eqv (e1 p.1) (e1 q.1) && D.eqv (eT4 e2 e3 e4 e5 p.2) (eT4 e2 e3 e4 e5 q.2)) = _
  rw [h1.inj, (enc_t4 h2 h3 h4 h5).inj]
  obtain ⟨a, b⟩ := p; obtain ⟨c, d⟩ := q
  by_cases h : a = c <;> by_cases h' : b = d <;> simp [h, h']⟩
theorem enc_t6 (h1 : Enc n e1) (h2 : Enc m e2) (h3 : Enc k e3) (h4 : Enc l e4) (h5 : Enc j e5) (h6 : Enc i e6) : Enc (max n (max m (max k (max l (max j i)))) + 1) (eT6 e1 e2 e3 e4 e5 e6) := ⟨fun p => tup_cons_fit (h1.fit _) ((enc_t5 h2 h3 h4 h5 h6).fit p.2), fun p q => by
  show (D.eqv (e1 p.1) (e1 q.1) && D.eqv (eT5 e2 e3 e4 e5 e6 p.2) (eT5 e2 e3 e4 e5 e6 q.2)) = _
  rw [h1.inj, (enc_t5 h2 h3 h4 h5 h6).inj]
  obtain ⟨a, b⟩ := p; obtain ⟨c, d⟩ := q
  by_cases h : a = c <;> by_cases h' : b = d <;> simp [h, h']⟩
/-- none of them is None -/
def NN {α : Type} (e : α → D) : Prop := ∀ a, isNon (e a) = false
theorem eqv_nn {d : D} (h : isNon d = false) (hp : d.py.plain = true) : D.eqv .non d = false ∧ D.eqv d .non = false := by
  cases d with
  | non => cases h
  | _ => first | exact ⟨rfl, rfl⟩ | cases hp
theorem enc_o (h : Enc n e) (hn : NN e) : Enc n (eO e) := ⟨fun a => by cases a with
    | none => exact fit_non n
    | some x => exact h.fit x, fun a b => by
    cases a with
    | none => cases b with
      | none => rfl
      | some y => rw [decide_eq_false (by simp)]; exact (eqv_nn (hn y) (h.fit y).1).1
    | some x => cases b with
      | none => rw [decide_eq_false (by simp)]; exact (eqv_nn (hn x) (h.fit x).1).2
      | some y => show D.eqv (e x) (e y) = _; rw [h.inj]; by_cases c : x = y <;> simp [c]⟩
theorem t_eq (h : Enc n e) (hn : n ≤ 60 := by decide) : Tot2 opEq e e D.bl (fun a b => decide (a = b)) := fun a b => by
  unfold opEq
  rw [if_pos (cmpOk_of (h.fit a) (h.fit b) hn), h.inj]
theorem t_ne (h : Enc n e) (hn : n ≤ 60 := by decide) : Tot2 opNe e e D.bl (fun a b => !decide (a = b)) := fun a b => by
  unfold opNe
  rw [if_pos (cmpOk_of (h.fit a) (h.fit b) hn), h.inj]
theorem any_mem (h : Enc n e) (a : α) (xs : List α) : ((xs.map e).any fun y => D.eqv y (e a)) = decide (a ∈ xs) := by
  induction xs with
  | nil => simp
  | cons x xs ih =>
    rw [List.map_cons, List.any_cons, ih, h.inj]
    by_cases c : x = a
    · simp [c]
    · have c' : ¬ a = x := fun z => c z.symm
      by_cases c2 : a ∈ xs <;> simp [c, c', c2]
theorem inB_l (h : Enc n e) (hn : n ≤ 59) (a : α) (xs : List α) : opInB (e a) (eL e xs) = some (decide (a ∈ xs)) := by
  have : opInB (e a) (.lst (xs.map e)) = if cmpOk (.lst (xs.map e)) (e a) then some ((xs.map e).any fun y => D.eqv y (e a)) else none := by cases e a <;> rfl
  unfold eL
  rw [this, if_pos (show cmpOk (.lst (xs.map e)) (e a) = true from cmpOk_of ((enc_l h).fit xs) ((h.fit a).up (by omega)) (by omega)), any_mem h]
theorem inB_k (h : Enc n e) (hn : n ≤ 59) (a : α) (xs : List α) : opInB (e a) (eK e xs) = some (decide (a ∈ xs)) := by
  have : opInB (e a) (.ktup (xs.map e)) = if cmpOk (.ktup (xs.map e)) (e a) then some ((xs.map e).any fun y => D.eqv y (e a)) else none := by cases e a <;> rfl
  unfold eK
  rw [this, if_pos (show cmpOk (.ktup (xs.map e)) (e a) = true from cmpOk_of ((enc_k h).fit xs) ((h.fit a).up (by omega)) (by omega)), any_mem h]
theorem t_in (h : Enc n e) (hn : n ≤ 59 := by decide) : Tot2 opIn e (eL e) D.bl (fun a xs => decide (a ∈ xs)) := fun a xs => by unfold opIn; rw [inB_l h hn]; rfl
theorem t_nin (h : Enc n e) (hn : n ≤ 59 := by decide) : Tot2 opNin e (eL e) D.bl (fun a xs => !decide (a ∈ xs)) := fun a xs => by unfold opNin; rw [inB_l h hn]; rfl
theorem t_ink (h : Enc n e) (hn : n ≤ 59 := by decide) : Tot2 opIn e (eK e) D.bl (fun a xs => decide (a ∈ xs)) := fun a xs => by unfold opIn; rw [inB_k h hn]; rfl
theorem t_nink (h : Enc n e) (hn : n ≤ 59 := by decide) : Tot2 opNin e (eK e) D.bl (fun a xs => !decide (a ∈ xs)) := fun a xs => by unfold opNin; rw [inB_k h hn]; rfl
end
theorem t_ins : Tot2 opIn D.str D.str D.bl strIn := fun _ _ => rfl
theorem t_nins : Tot2 opNin D.str D.str D.bl (fun a b => !strIn a b) := fun _ _ => rfl
/-! dyn -/
def eqB (a b : D) : Option Bool := if cmpOk a b then some (D.eqv a b) else none
def neB (a b : D) : Option Bool := if cmpOk a b then some (!D.eqv a b) else none
theorem d_eq : Par2 opEq eD eD D.bl eqB := fun a b c h => by
  unfold eqB at h; unfold opEq
  split at h
  · rename_i q; cases h; rw [if_pos q]
  · cases h
theorem d_ne : Par2 opNe eD eD D.bl neB := fun a b c h => by
  unfold neB at h; unfold opNe
  split at h
  · rename_i q; cases h; rw [if_pos q]
  · cases h
def ninB (a b : D) : Option Bool := (opInB a b).map fun c => !c
theorem d_in : Par2 opIn eD eD D.bl opInB := fun a b c h => by unfold opIn; rw [h]; rfl
theorem d_nin : Par2 opNin eD eD D.bl ninB := fun a b c h => by
  unfold ninB at h; unfold opNin
  cases q : opInB a b with
  | none => rw [q] at h; cases h
  | some x => rw [q] at h; cases h; rfl
theorem d_op (op : D → D → Option D) : Par2 op eD eD eD op := fun a b c h => h
/-- truths of data -/
def tst (o : Option D) : Option Bool := o.bind fun d => match d with | .bl b => some b | _ => none
theorem tstD {f : Ev} {δ : Env} {T : Option D} (h : EvM f δ eD T) : EvM f δ D.bl (tst T) := fun c q => by
  obtain ⟨d, q1, q2⟩ := bind_eq q
  cases d with
  | bl b => cases q2; exact h _ q1
  | _ => cases q2
def ltD (a b : D) : Option Bool := match a, b with | .int i, .int j => some (decide (i < j)) | _, _ => none
def leD (a b : D) : Option Bool := match a, b with | .int i, .int j => some (decide (i ≤ j)) | _, _ => none
theorem d_lt : Par2 opLt eD eD D.bl ltD := fun a b c h => by cases a <;> cases b <;> cases h; rfl
theorem d_le : Par2 opLe eD eD D.bl leD := fun a b c h => by cases a <;> cases b <;> cases h; rfl
/-! is None -/
section
variable {α : Type} {f : Ev} {δ : Env} {e : α → D} {x : Option α} {T : Option (Option α)}
theorem isN (h : EvP f δ (eO e) x) (hn : NN e) : EvP (v2 opIs f (vC .non)) δ D.bl x.isNone := by
  unfold EvP at *; rw [v2_def, h, Option.bind_some, vC_def, Option.bind_some, opIs_non]
  cases x with
  | none => rfl
  | some y => show some (D.bl (isNon (e y))) = _; rw [hn]; rfl
theorem isNM (h : EvM f δ (eO e) T) (hn : NN e) : EvM (v2 opIs f (vC .non)) δ D.bl (T.bind fun x => some x.isNone) := fun r q => by
  obtain ⟨a, q1, q2⟩ := bind_eq q; cases q2; exact isN (h a q1) hn
theorem isNt (h : EvP f δ (eO e) x) (hn : NN e) : EvP (v2 opNot f (vC .non)) δ D.bl x.isSome := by
  unfold EvP at *; rw [v2_def, h, Option.bind_some, vC_def, Option.bind_some, opNot_non]
  cases x with
  | none => rfl
  | some y => show some (D.bl (!isNon (e y))) = _; rw [hn]; rfl
theorem isNtM (h : EvM f δ (eO e) T) (hn : NN e) : EvM (v2 opNot f (vC .non)) δ D.bl (T.bind fun x => some x.isSome) := fun r q => by
  obtain ⟨a, q1, q2⟩ := bind_eq q; cases q2; exact isNt (h a q1) hn
theorem isD {d : D} (h : EvP f δ eD d) : EvP (v2 opIs f (vC .non)) δ D.bl (isNon d) := by
  unfold EvP at *; rw [v2_def, h, Option.bind_some, vC_def, Option.bind_some, opIs_non]
theorem isntD {d : D} (h : EvP f δ eD d) : EvP (v2 opNot f (vC .non)) δ D.bl (!isNon d) := by
  unfold EvP at *; rw [v2_def, h, Option.bind_some, vC_def, Option.bind_some, opNot_non]
theorem isDM {T : Option D} (h : EvM f δ eD T) : EvM (v2 opIs f (vC .non)) δ D.bl (T.bind fun d => some (isNon d)) := fun r q => by
  obtain ⟨a, q1, q2⟩ := bind_eq q; cases q2; exact isD (h a q1)
theorem isntDM {T : Option D} (h : EvM f δ eD T) : EvM (v2 opNot f (vC .non)) δ D.bl (T.bind fun d => some (!isNon d)) := fun r q => by
  obtain ⟨a, q1, q2⟩ := bind_eq q; cases q2; exact isntD (h a q1)
end
theorem nn_int : NN D.int := fun _ => rfl
theorem nn_str : NN D.str := fun _ => rfl
theorem nn_bl : NN D.bl := fun _ => rfl
theorem nn_l {α : Type} {e : α → D} : NN (eL e) := fun _ => rfl
theorem nn_k {α : Type} {e : α → D} : NN (eK e) := fun _ => rfl
theorem nn_t2 {α β : Type} {e1 : α → D} {e2 : β → D} : NN (eT2 e1 e2) := fun _ => rfl
theorem nn_t3 {α β γ : Type} {e1 : α → D} {e2 : β → D} {e3 : γ → D} : NN (eT3 e1 e2 e3) := fun _ => rfl
/-! ### items -/
theorem p_ixl {α : Type} {e : α → D} : Par2 opIx (eL e) D.int e (fun xs i => atI xs i) := fun xs i c h => by
  have h : atI xs i = some c := h
  show opIx (.lst (xs.map e)) (.int i) = _
  rw [opIx_lst, atI_map, h]; rfl
theorem p_ixk {α : Type} {e : α → D} : Par2 opIx (eK e) D.int e (fun xs i => atI xs i) := fun xs i c h => by
  have h : atI xs i = some c := h
  show opIx (.ktup (xs.map e)) (.int i) = _
  rw [opIx_ktup, atI_map, h]; rfl
theorem p_ixscr : Par2 opIx eS D.int D.int (fun xs i => atI xs i) := fun xs i c h => by
  have h : atI xs i = some c := h
  show opIx (.scr xs) (.int i) = _
  rw [opIx_scr, h]; rfl
def atS (s : Str) (i : Int) : Option Str := (atI s.cps.toList i).bind fun c => some (sg1 c)
theorem p_ixs : Par2 opIx D.str D.int D.str atS := fun s i c h => by
  obtain ⟨x, q1, q2⟩ := bind_eq h
  cases q2
  rw [opIx_str, q1]; rfl
section
variable {α β : Type} {f : Ev} {δ : Env} {e : α → D} {e2 : β → D} {x : α} {T : Option α}
/-- a part of a tuple -/
theorem ixT {k : Int} {y : β} (h : EvP f δ e x) (hk : opIx (e x) (.int k) = some (e2 y)) : EvP (v2 opIx f (vC (.int k))) δ e2 y := by
  unfold EvP at *; rw [v2_def, h, Option.bind_some, vC_def, Option.bind_some, hk]
theorem ixTM {k : Int} {G : α → β} (h : EvM f δ e T) (hk : ∀ x, opIx (e x) (.int k) = some (e2 (G x))) : EvM (v2 opIx f (vC (.int k))) δ e2 (T.bind fun x => some (G x)) := fun r q => by
  obtain ⟨a, q1, q2⟩ := bind_eq q; cases q2; exact ixT (h a q1) (hk a)
end
/-! ### texts, lists -/
def catS (a b : Str) : Option Str := if a.length + b.length ≤ sizeLine then some (a ++ b) else none
theorem p_cats : Par2 opAdd D.str D.str D.str catS := fun a b c h => by
  unfold catS at h
  rw [opAdd_ss]
  split at h
  · rename_i q; cases h; rw [if_pos q]
  · cases h
def catL {α : Type} (a b : List α) : Option (List α) := if a.length + b.length ≤ sizeLine then some (a ++ b) else none
theorem p_catl {α : Type} {e : α → D} : Par2 opCat (eL e) (eL e) (eL e) catL := fun a b c h => by
  unfold catL at h
  show (if (a.map e).length + (b.map e).length ≤ sizeLine then some (D.lst (a.map e ++ b.map e)) else none) = _
  rw [List.length_map, List.length_map]
  split at h
  · rename_i q; cases h; rw [if_pos q]; unfold eL; rw [List.map_append]
  · cases h
theorem opAdd_ll (a b : List D) : opAdd (.lst a) (.lst b) = opCat (.lst a) (.lst b) := rfl
theorem p_addl {α : Type} {e : α → D} : Par2 opAdd (eL e) (eL e) (eL e) catL := fun a b c h => p_catl a b c h
def repT {α : Type} (a : List α) (k : Int) : Option (List α) := if k < 2 ^ 62 ∧ -(2 ^ 62) < k ∧ a.length * k.toNat ≤ sizeLine then some (List.replicate k.toNat a).flatten else none
theorem p_rep {α : Type} {e : α → D} : Par2 opMul (eL e) D.int (eL e) repT := fun a k c h => by
  unfold repT at h
  show (if k < 2 ^ 62 ∧ -(2 ^ 62) < k ∧ (a.map e).length * k.toNat ≤ sizeLine then some (D.lst (List.replicate k.toNat (a.map e)).flatten) else none) = _
  rw [List.length_map]
  split at h
  · rename_i q; cases h; rw [if_pos q]; unfold eL; rw [List.map_flatten, List.map_replicate]
  · cases h
theorem s_l {α : Type} {e : α → D} (a : List α) (lo hi : Option Int) : opSl (eL e a) lo hi = some (eL e (cutD a lo hi)) := by
  show some (D.lst (cutD (a.map e) lo hi)) = some (D.lst ((cutD a lo hi).map e))
  unfold cutD
  rw [List.length_map, List.map_take, List.map_drop]
theorem s_lL {α : Type} {e : α → D} (a : List α) (lo hi : Option Int) : opSlL (eL e a) lo hi = some (eL e (cutD a lo hi)) := s_l a lo hi
def cutS' (s : Str) (lo hi : Option Int) : Str := ⟨(cutD s.cps.toList lo hi).toArray⟩
theorem s_s (a : Str) (lo hi : Option Int) : opSl (.str a) lo hi = some (.str (cutS' a lo hi)) := rfl
/-! ### builtins: what is told of arguments -/
section
variable {α : Type} {e : α → D}
theorem b_lenL (xs : List α) : opLen [eL e xs] = some (.int (xs.length : Int)) := by show some (D.int ((xs.map e).length : Int)) = _; rw [List.length_map]
theorem b_lenK (xs : List α) : opLen [eK e xs] = some (.int (xs.length : Int)) := by show some (D.int ((xs.map e).length : Int)) = _; rw [List.length_map]
theorem b_lenS (x : Str) : opLen [.str x] = some (.int (x.length : Int)) := rfl
theorem b_lenscr (x : List Int) : opLen [eS x] = some (.int (x.length : Int)) := rfl
def lenD (d : D) : Option Int := (opLen [d]).bind cI
theorem b_lenD (d : D) (n : Int) (h : lenD d = some n) : opLen [d] = some (.int n) := by
  obtain ⟨a, q1, q2⟩ := bind_eq h
  rw [q1, cI_ok a n q2]
theorem b_listL (xs : List α) : opList [eL e xs] = some (eL e xs) := rfl
def isiD (d : D) (n : String) : Option Bool := (opIsi [d, .ty n]).bind cB
theorem b_isiD (d : D) (n : String) (c : Bool) (h : isiD d n = some c) : opIsi [d, .ty n] = some (.bl c) := by
  obtain ⟨a, q1, q2⟩ := bind_eq h
  rw [q1, cB_ok a c q2]
def b2i (b : Bool) : Int := if b then 1 else 0
theorem b_intB (b : Bool) : opInt [.bl b] = some (.int (b2i b)) := rfl
theorem b_intI (b : Int) : opInt [.int b] = some (.int b) := rfl
def intT (x : Str) : Option Int := if x.length ≤ 640 then PySem.intText? x else none
theorem b_intS (x : Str) (i : Int) (h : intT x = some i) : opInt [.str x] = some (.int i) := by
  unfold intT at h
  rw [opInt_str]
  split at h
  · rename_i q; rw [if_pos q, h]; rfl
  · cases h
def strT (i : Int) : Option Str := if i.natAbs.log2 < 1920 ∧ (intStr i).length ≤ sizeLine then some (intStr i) else none
theorem b_str (i : Int) (s : Str) (h : strT i = some s) : opStr [.int i] = some (.str s) := by
  unfold strT at h
  show (if i.natAbs.log2 < 1920 ∧ (intStr i).length ≤ sizeLine then some (D.str (intStr i)) else none) = _
  split at h
  · rename_i q; cases h; rw [if_pos q]
  · cases h
def min2 (i j : Int) : Int := if j < i then j else i
def max2 (i j : Int) : Int := if j > i then j else i
theorem b_min2 (i j : Int) : opMin2 [.int i, .int j] = some (.int (min2 i j)) := rfl
theorem b_max2 (i j : Int) : opMax2 [.int i, .int j] = some (.int (max2 i j)) := rfl
def absT (i : Int) : Int := if i < 0 then -i else i
theorem b_abs (i : Int) : opAbs [.int i] = some (.int (absT i)) := rfl
theorem intsOf_int (xs : List Int) : intsOf (xs.map D.int) = some xs := by
  induction xs with
  | nil => rfl
  | cons x xs ih => show (intsOf (xs.map D.int)).map (x :: ·) = _; rw [ih]; rfl
def minT (xs : List Int) : Option Int := if xs = [] then none else some (minL xs)
def maxT (xs : List Int) : Option Int := if xs = [] then none else some (maxL xs)
theorem b_min (xs : List Int) (i : Int) (h : minT xs = some i) : opMin [eL D.int xs] = some (.int i) := by
  unfold minT at h
  show ((intsOf (xs.map D.int)).bind fun ns => if ns = [] then none else some (D.int (minL ns))) = _
  rw [intsOf_int, Option.bind_some]
  split at h
  · cases h
  · rename_i q; cases h; rw [if_neg q]
theorem b_max (xs : List Int) (i : Int) (h : maxT xs = some i) : opMax [eL D.int xs] = some (.int i) := by
  unfold maxT at h
  show ((intsOf (xs.map D.int)).bind fun ns => if ns = [] then none else some (D.int (maxL ns))) = _
  rw [intsOf_int, Option.bind_some]
  split at h
  · cases h
  · rename_i q; cases h; rw [if_neg q]
theorem blsOf_bl (xs : List Bool) : blsOf (xs.map D.bl) = some xs := by
  induction xs with
  | nil => rfl
  | cons x xs ih => show (blsOf (xs.map D.bl)).map (x :: ·) = _; rw [ih]; rfl
theorem b_all (xs : List Bool) : opAll [eL D.bl xs] = some (.bl (xs.all id)) := by show (blsOf (xs.map D.bl)).map _ = _; rw [blsOf_bl]; rfl
theorem b_any (xs : List Bool) : opAny [eL D.bl xs] = some (.bl (xs.any id)) := by show (blsOf (xs.map D.bl)).map _ = _; rw [blsOf_bl]; rfl
/-! methods of texts -/
def lowT (x : Str) : Option Str := if x.length ≤ 5592405 ∧ (Txt.lower x).length ≤ sizeLine then some (Txt.lower x) else none
def uppT (x : Str) : Option Str := if x.length ≤ 5592405 ∧ (Txt.upper x).length ≤ sizeLine then some (Txt.upper x) else none
theorem m_lower (x y : Str) (h : lowT x = some y) : mLower x [] = some (.str y) := by
  unfold lowT at h
  show (if x.length ≤ 5592405 ∧ (Txt.lower x).length ≤ sizeLine then some (D.str (Txt.lower x)) else none) = _
  split at h
  · rename_i q; cases h; rw [if_pos q]
  · cases h
theorem m_upper (x y : Str) (h : uppT x = some y) : mUpper x [] = some (.str y) := by
  unfold uppT at h
  show (if x.length ≤ 5592405 ∧ (Txt.upper x).length ≤ sizeLine then some (D.str (Txt.upper x)) else none) = _
  split at h
  · rename_i q; cases h; rw [if_pos q]
  · cases h
theorem m_find (x y : Str) : mFind x [.str y] = some (.int (Txt.find x y)) := rfl
theorem m_count (x y : Str) : mCount x [.str y] = some (.int (Txt.count x y)) := rfl
def joinT (x : Str) (ys : List Str) : Option Str := if (ys.map (·.length)).sum + ys.length * x.length ≤ 16777216 ∧ (Txt.join x ys).length ≤ sizeLine then some (Txt.join x ys) else none
theorem m_join (x : Str) (ys : List Str) (z : Str) (h : joinT x ys = some z) : mJoin x [eL D.str ys] = some (.str z) := by
  unfold joinT at h
  show mJoin x [.lst (ys.map D.str)] = _
  rw [mJoin_lst, strsOf_map, Option.bind_some]
  split at h
  · rename_i q; cases h; rw [if_pos q]
  · cases h
end
/-! ### stores -/
section
variable {α β γ : Type} {f fk fv : Ev} {s' : Sv} {δ : Env} {e : α → D} {x : α} {g : β → Out} {i : Nat} {xs ys : List α}
def putLT (xs : List α) (k : Int) (x : α) : Option (List α) := (ixN xs.length k).bind fun j => some (xs.set j x)
theorem put_eq {v : List α} {k : Int} (h : putLT xs k x = some v) (hf : fv δ = some (e x)) (hk : fk δ = some (.int k)) (hv : δ[i]? = some (some (eL e xs))) : sPut i fk fv δ = some (.nx (δ.set i (some (eL e v)))) := by
  obtain ⟨j, q1, q2⟩ := bind_eq h
  cases q2
  rw [sPut_def, hf, Option.bind_some, hk, Option.bind_some, vVar_def, hv]
  show ((ixN (xs.map e).length k).map fun j => D.lst ((xs.map e).set j (e x))).map _ = _
  rw [List.length_map, q1]
  show some (Out.nx (δ.set i (some (D.lst ((xs.map e).set j (e x)))))) = _
  unfold eL; rw [List.map_set]
theorem stPutM {K : List α → Option β} {T : Option α} {k : Option Int} (a : EvM fv δ e T) (b : EvM fk δ D.int k) (h : ∀ v, St s' (δ.set i (some (eL e v))) g (K v)) (hv : δ[i]? = some (some (eL e xs)) := by rfl) : St (sSeq (sPut i fk fv) s') δ g (T.bind fun x => k.bind fun k => (putLT xs k x).bind K) := fun r q => by
  obtain ⟨x, q1, q2⟩ := bind_eq q
  obtain ⟨k', q3, q4⟩ := bind_eq q2
  obtain ⟨v, q5, q6⟩ := bind_eq q4
  rw [sSeq_def, put_eq q5 (a x q1) (b k' q3) hv]
  exact h v r q6
theorem ext_eq {v : List α} (h : extT xs ys = some v) (hf : f δ = some (eL e ys)) (hv : δ[i]? = some (some (eL e xs))) : sExt i f δ = some (.nx (δ.set i (some (eL e v)))) := by
  unfold extT at h
  split at h
  · rename_i c
    cases h
    unfold sExt
    rw [vVar_def, hv]
    show ((f δ).bind fun d => match d with | .lst es => if (xs.map e).length + es.length ≤ sizeLine then some (putL i δ (xs.map e ++ es)) else none | _ => none) = _
    rw [hf, Option.bind_some]
    show (if (xs.map e).length + (ys.map e).length ≤ sizeLine then some (putL i δ (xs.map e ++ ys.map e)) else none) = _
    rw [List.length_map, List.length_map, if_pos c, putL_def, ← List.map_append]; rfl
  · cases h
theorem stExtM {K : List α → Option β} {T : Option (List α)} (a : EvM f δ (eL e) T) (h : ∀ v, St s' (δ.set i (some (eL e v))) g (K v)) (hv : δ[i]? = some (some (eL e xs)) := by rfl) : St (sSeq (sExt i f) s') δ g (T.bind fun ys => (extT xs ys).bind K) := fun r q => by
  obtain ⟨y, q1, q2⟩ := bind_eq q
  obtain ⟨v, q3, q4⟩ := bind_eq q2
  rw [sSeq_def, ext_eq q3 (a y q1) hv]
  exact h v r q4
/-- a, b = x, y -/
theorem stPar {i j : Nat} {α' : Type} {e2 : α' → D} {y : α'} {fr : Env → Option (List D)} {K : α → α' → Option β} (h1 : fr δ = some [e x, e2 y]) (h : ∀ v w, St s' ((δ.set i (some (e v))).set j (some (e2 w))) g (K v w)) : St (sSeq (sPar i j fr) s') δ g (lett x fun v => lett y fun w => K v w) := fun r q => by
  rw [sSeq_def, sPar_def, h1]
  exact h x y r q
end
/-! ### a def -/
theorem def_of {α : Type} {n np : Nat} {rm : Mode} {s : Sv} {ds : List D} {e : α → D} {T : Option α} (hl : ds.length = np) (h : St s (ds.map some ++ List.replicate (n - np) none) (fun r => .rt (e r)) T) : ∀ r, T = some r → denOf n np rm s ds = some (e r) := fun r q => by
  unfold denOf
  rw [if_pos hl, h r q]; rfl
/-- one that ends without a value -/
theorem def_ofU {σ : Type} {n np : Nat} {s : Sv} {ds : List D} {E : σ → Env} {T : Option σ} (hl : ds.length = np) (h : St s (ds.map some ++ List.replicate (n - np) none) (fun v => .nx (E v)) T) : ∀ r, T = some r → denOf n np .sh s ds = some .non := fun r q => by
  unfold denOf
  rw [if_pos hl, h r q]; rfl
theorem def_ofC {σ ρ : Type} {n np : Nat} {s : Sv} {ds : List D} {E : σ → Env} {e : ρ → D} {T : Option (Ctl σ ρ)} (d : ρ) (hd : e d = .non) (hl : ds.length = np) (h : St s (ds.map some ++ List.replicate (n - np) none) (outF E e) T) : ∀ r, bindC T (fun _ => some d) (fun r => r) = some r → denOf n np .sh s ds = some (e r) := fun r q => by
  obtain ⟨c, q1, q2⟩ := bind_eq q
  unfold denOf
  rw [if_pos hl, h c q1]
  cases c with
  | nx v => cases q2; rw [hd]; rfl
  | rt y => cases q2; rfl
/-- an __init__ -/
theorem init_of {σ : Type} {c : Str} {n np : Nat} {s : Sv} {ds : List D} {E : Addr → σ → Env} {T : Option σ} {G : σ → List (Str × D)} (hl : ds.length + 1 = np) (hs : ds.all (fun d => !isSlf d) = true) (h : ∀ a, St s (some (.slf a c []) :: (ds.map some ++ List.replicate (n - np) none)) (fun v => .nx (E a v)) T) (hE : ∀ a v, (E a v)[0]? = some (some (.slf a c (G v)))) : ∀ v, T = some v → denM (denI c n np s) ds = some (.ins c (G v)) := fun v q => denM_of fun a => by
  unfold denI
  rw [if_pos ⟨hl, hs⟩, h a v q, Option.bind_some]
  show (match (E a v)[0]? with | some (some (D.slf a' c' fs)) => if a' = a ∧ c' = c then some (D.ins c fs) else none | _ => none) = _
  rw [hE]
  exact if_pos ⟨rfl, rfl⟩
/-- self.f = e -/
theorem stFld {β γ : Type} {i : Nat} {a : Addr} {c w : Str} {fs : List (Str × D)} {g : β → Out} {e : γ → D} {x : γ} {f : Ev} {s' : Sv} {δ : Env} {R : Option β} (h : EvP f δ e x) (k : St s' (δ.set i (some (.slf a c (putFD w (e x) fs)))) g R) (hv : δ[i]? = some (some (.slf a c fs)) := by rfl) (hl : fs.length < 1000 := by simp) : St (sSeq (sFldS i w f) s') δ g R := fun r q => by
  unfold EvP at h
  have : sFldS i w f δ = some (.nx (δ.set i (some (.slf a c (putFD w (e x) fs))))) := by
    unfold sFldS
    rw [h, Option.bind_some, vVar_def, hv]
    exact if_pos hl
  rw [sSeq_def, this]
  exact k r q
theorem stFldM {β γ : Type} {i : Nat} {a : Addr} {c w : Str} {fs : List (Str × D)} {g : β → Out} {e : γ → D} {T : Option γ} {f : Ev} {s' : Sv} {δ : Env} {K : γ → Option β} (h : EvM f δ e T) (k : ∀ x, St s' (δ.set i (some (.slf a c (putFD w (e x) fs)))) g (K x)) (hv : δ[i]? = some (some (.slf a c fs)) := by rfl) (hl : fs.length < 1000 := by simp) : St (sSeq (sFldS i w f) s') δ g (T.bind K) := fun r q => by
  obtain ⟨x, q1, q2⟩ := bind_eq q
  exact stFld (h x q1) (k x) hv hl r q2
/-! more -/
section
variable {α β γ : Type} {f g : Ev} {δ : Env} {e : α → D} {x : α} {k : List D → Option D} {T : Option α}
theorem arMtot (h : k [] = some (e x)) : ArM aNil δ k e (some x) := fun r q => by cases q; exact h
theorem isiK {d : D} {a n : String} {b : Bool} (h1 : tyName d = some a) (h2 : kitB a n = some b ∧ isiB a n = b) : opIsi [d, .ty n] = some (.bl b) := by
  show (tyName d).bind _ = _
  rw [h1, Option.bind_some, if_pos (by rw [h2.1, h2.2]), h2.2]
theorem isiO {a n : String} {b : Bool} (x : Option α) (h1 : ∀ y, tyName (e y) = some a) (h2 : kitB a n = some b ∧ isiB a n = b) (h3 : kitB "NoneType" n = some false ∧ isiB "NoneType" n = false) : opIsi [eO e x, .ty n] = some (.bl (x.isSome && b)) := by
  cases x with
  | none => exact isiK (d := .non) rfl h3
  | some y => rw [show eO e (some y) = e y from rfl, isiK (h1 y) h2]; simp
theorem eL_conv {e' : β → D} (c : α → β) (h : ∀ a, e' (c a) = e a) (xs : List α) : eL e' (xs.map c) = eL e xs := by
  unfold eL; rw [List.map_map]; congr 1; exact List.map_congr_left fun a _ => h a
theorem eO_conv {e' : β → D} (c : α → β) (h : ∀ a, e' (c a) = e a) (x : Option α) : eO e' (x.map c) = eO e x := by
  cases x with
  | none => rfl
  | some y => exact h y
theorem eT2_conv {α' β' : Type} {e1 : α → D} {e2 : β → D} {f1 : α' → D} {f2 : β' → D} (c1 : α → α') (c2 : β → β') (h1 : ∀ a, f1 (c1 a) = e1 a) (h2 : ∀ a, f2 (c2 a) = e2 a) (p : α × β) : eT2 f1 f2 ((c1 p.1, c2 p.2) : α' × β') = eT2 e1 e2 p := by
  unfold eT2; rw [h1, h2]
/-- a tuple walked -/
theorem itTup2 {p : α × α} (a : EvP f δ (eT2 e e) p) : ItP (iAnyF f) δ e [p.1, p.2] := by unfold EvP ItP at *; rw [iAnyF_def, a]; rfl
theorem lcT_len {P : α → Option Bool} {G : α → Option β} : ∀ {xs : List α} {ys : List β}, lcT P G xs = some ys → ys.length ≤ xs.length
  | [], ys, h => by cases h; exact Nat.le_refl _
  | x :: xs, ys, h => by
    obtain ⟨b, q1, q2⟩ := bind_eq h
    by_cases hb : b = true
    · rw [if_pos hb] at q2
      obtain ⟨y, q3, q4⟩ := bind_eq q2
      obtain ⟨zs, q5, q6⟩ := bind_eq q4
      cases q6
      exact Nat.succ_le_succ (lcT_len q5)
    · rw [if_neg hb] at q2
      exact Nat.le_succ_of_le (lcT_len q2)
end
end Dl
/-! L: more: sorted, len(set), enumerate, zip, tuples of any length, classes. -/
namespace Dl
open PySem L2
def eV {α : Type} (e : α → D) (xs : List α) : D := .tup (xs.map e)
def cT2 {α β : Type} (c1 : D → Option α) (c2 : D → Option β) : D → Option (α × β)
  | .tup [a, b] => (c1 a).bind fun x => (c2 b).bind fun y => some (x, y)
  | _ => none
theorem cT2_ok {α β : Type} {e1 : α → D} {e2 : β → D} {c1 : D → Option α} {c2 : D → Option β} (h1 : ∀ d a, c1 d = some a → d = e1 a) (h2 : ∀ d a, c2 d = some a → d = e2 a) : ∀ d p, cT2 c1 c2 d = some p → d = eT2 e1 e2 p := fun d p h => by
  unfold cT2 at h
  split at h
  · obtain ⟨x, q1, q2⟩ := bind_eq h
    obtain ⟨y, q3, q4⟩ := bind_eq q2
    cases q4
    rw [h1 _ _ q1, h2 _ _ q3]; rfl
  · cases h
theorem cT2_map {α β : Type} {e1 : α → D} {e2 : β → D} {c1 : D → Option α} {c2 : D → Option β} (h1 : ∀ a, c1 (e1 a) = some a) (h2 : ∀ a, c2 (e2 a) = some a) (p : α × β) : cT2 c1 c2 (eT2 e1 e2 p) = some p := by
  show (c1 (e1 p.1)).bind (fun x => (c2 (e2 p.2)).bind fun y => some (x, y)) = _
  rw [h1, h2]; rfl
section
variable {α β : Type} {f g : Ev} {fr : Env → Option (List D)} {δ : Env} {e : α → D} {e2 : β → D} {xs : List α} {X : Option (List α)}
/-! sorted -/
def sortIT (xs : List Int) : Option (List Int) := some (sortI xs)
theorem b_sortI (xs ys : List Int) (h : sortIT xs = some ys) : opSorted [eL D.int xs] = some (eL D.int ys) := by
  cases h
  show (intsOf (xs.map D.int)).map _ = _
  rw [intsOf_int]; rfl
def sortDT (d : D) : Option (List Int) := (opSorted [d]).bind (cL cI)
theorem b_sortD (d : D) (ys : List Int) (h : sortDT d = some ys) : opSorted [d] = some (eL D.int ys) := by
  obtain ⟨r, q1, q2⟩ := bind_eq h
  rw [q1, cL_ok cI_ok r ys q2]
@[simp] theorem sortDT_int (xs : List Int) : sortDT (eL D.int xs) = some (sortI xs) := by
  unfold sortDT
  rw [b_sortI xs _ rfl, Option.bind_some]
  exact cL_eL (e := D.int) (fun _ => rfl) _
def sortSetT (xs : List Int) : Option (List Int) := if xs.length < 64 then some (setSort xs) else none
theorem sortSetP {xs : List Int} (h : EvP f δ (eL D.int) xs) : EvM (vSortSet f) δ (eL D.int) (sortSetT xs) := fun ys q => by
  unfold sortSetT at q
  unfold EvP at h
  split at q
  · rename_i c
    cases q
    rw [vSortSet_def, h]
    show ((intsOf (xs.map D.int)).bind fun ns => if ns.length < 64 then some (D.lst ((setSort ns).map D.int)) else none) = _
    rw [intsOf_int, Option.bind_some, if_pos c]; rfl
  · cases q
theorem sortSetM {X : Option (List Int)} (h : EvM f δ (eL D.int) X) : EvM (vSortSet f) δ (eL D.int) (X.bind sortSetT) := fun ys q => by
  obtain ⟨xs, q1, q2⟩ := bind_eq q
  exact sortSetP (h xs q1) ys q2
/-! len(set) -/
theorem lenSetDP {d : D} (h : EvP f δ eD d) : EvM (vLenSet f) δ D.int (lenSetD d) := fun i q => by
  unfold EvP at h
  show (f δ).bind (fun d => (lenSetD d).map D.int) = _
  rw [h, Option.bind_some, q]; rfl
theorem lenSetDM {d : Option D} (h : EvM f δ eD d) : EvM (vLenSet f) δ D.int (d.bind lenSetD) := fun i q => by
  obtain ⟨x, q1, q2⟩ := bind_eq q
  exact lenSetDP (h x q1) i q2
def lenSetT [DecidableEq α] (xs : List α) : Option Int := if xs.length ≤ 4000 then some (nd xs : Nat) else none
theorem lenSetD_int (xs : List Int) : lenSetD (eL D.int xs) = lenSetT xs := by
  show (if (xs.map D.int).length ≤ 4000 then match intsOf (xs.map D.int) with | some ns => some ((nd ns : Nat) : Int) | none => (strsOf (xs.map D.int)).bind fun ys => some ((nd ys : Nat) : Int) else none) = _
  rw [intsOf_int, List.length_map]; rfl
theorem strsOf_str (xs : List Str) : strsOf (xs.map D.str) = some xs := strsOf_map xs
theorem lenSetD_str (xs : List Str) : lenSetD (eL D.str xs) = lenSetT xs := by
  show (if (xs.map D.str).length ≤ 4000 then match intsOf (xs.map D.str) with | some ns => some ((nd ns : Nat) : Int) | none => (strsOf (xs.map D.str)).bind fun ys => some ((nd ys : Nat) : Int) else none) = _
  rw [strsOf_str, List.length_map]
  cases xs with
  | nil => rfl
  | cons x xs => rfl
theorem lenSetIP {xs : List Int} (h : EvP f δ (eL D.int) xs) : EvM (vLenSet f) δ D.int (lenSetT xs) := by rw [← lenSetD_int]; exact lenSetDP (show EvP f δ eD (eL D.int xs) from h)
theorem lenSetSP {xs : List Str} (h : EvP f δ (eL D.str) xs) : EvM (vLenSet f) δ D.int (lenSetT xs) := by rw [← lenSetD_str]; exact lenSetDP (show EvP f δ eD (eL D.str xs) from h)
theorem lenSetIM {X : Option (List Int)} (h : EvM f δ (eL D.int) X) : EvM (vLenSet f) δ D.int (X.bind lenSetT) := fun i q => by
  obtain ⟨x, q1, q2⟩ := bind_eq q
  exact lenSetIP (h x q1) i q2
theorem lenSetSM {X : Option (List Str)} (h : EvM f δ (eL D.str) X) : EvM (vLenSet f) δ D.int (X.bind lenSetT) := fun i q => by
  obtain ⟨x, q1, q2⟩ := bind_eq q
  exact lenSetSP (h x q1) i q2
/-! enumerate, zip -/
def enumT (xs : List α) : List (Int × α) := xs.mapIdx fun i x => ((i : Int), x)
theorem enumT_map (xs : List α) : (enumT xs).map (eT2 D.int e) = enumD (xs.map e) := by
  unfold enumT enumD
  apply List.ext_getElem?
  intro i
  rw [List.getElem?_map, List.getElem?_mapIdx, List.getElem?_mapIdx, List.getElem?_map]
  cases xs[i]? <;> rfl
theorem itEnL (h : EvP f δ (eL e) xs) : ItP (iEnumerateF (aCons f aNil)) δ (eT2 D.int e) (enumT xs) := by
  unfold ItP EvP at *
  show (aCons f aNil δ).bind _ = _
  rw [aCons_def, h, enumT_map]; rfl
theorem itEnLM (h : EvM f δ (eL e) X) : ItM (iEnumerateF (aCons f aNil)) δ (eT2 D.int e) (X.bind fun xs => some (enumT xs)) := fun y q => by
  obtain ⟨z, q1, q2⟩ := bind_eq q
  cases q2
  exact itEnL (h z q1)
theorem itEnS {s : Str} (h : EvP f δ D.str s) : ItP (iEnumerateF (aCons f aNil)) δ (eT2 D.int D.str) (enumT (sgs s)) := by
  unfold ItP EvP at *
  show (aCons f aNil δ).bind _ = _
  rw [aCons_def, h, enumT_map]
  show some (enumD (signs s)) = some (enumD ((sgs s).map D.str))
  unfold sgs signs
  rw [List.map_map]; rfl
theorem itEnSM {s : Option Str} (h : EvM f δ D.str s) : ItM (iEnumerateF (aCons f aNil)) δ (eT2 D.int D.str) (s.bind fun s => some (enumT (sgs s))) := fun y q => by
  obtain ⟨z, q1, q2⟩ := bind_eq q
  cases q2
  exact itEnS (h z q1)
theorem itZipM {Y : Option (List β)} (a : EvM f δ (eL e) X) (b : EvM g δ (eL e2) Y) : ItM (iZipF (aCons f (aCons g aNil))) δ (eT2 e e2) (X.bind fun xs => Y.bind fun ys => some (xs.zip ys)) := fun y q => by
  obtain ⟨xs, q1, q2⟩ := bind_eq q
  obtain ⟨ys, q3, q4⟩ := bind_eq q2
  cases q4
  show (aCons f (aCons g aNil) δ).bind _ = _
  rw [aCons_def, a xs q1, Option.bind_some, aCons_def, b ys q3]
  show some (((xs.map e).zip (ys.map e2)).map fun p => D.tup [p.1, p.2]) = _
  rw [List.zip_map, List.map_map]; rfl
/-! slices -/
theorem s_scr (a : List Int) (lo hi : Option Int) : opSl (eS a) lo hi = some (eL D.int (cutD a lo hi)) := s_l a lo hi
def cD (d : D) : Option D := some d
theorem cD_ok : ∀ d a, cD d = some a → d = eD a := fun d a h => by cases h; rfl
theorem slD {L H : Option (Option Int)} {l u : Env → Option (Option Int)} {T : Option D} (a : EvM f δ eD T) (b : PtM l δ L) (c : PtM u δ H) : EvM (vSl opSl f l u) δ eD (T.bind fun x => L.bind fun lo => H.bind fun hi => opSl x lo hi) := fun y q => by
  obtain ⟨x, q1, q2⟩ := bind_eq q
  obtain ⟨lo, q3, q4⟩ := bind_eq q2
  obtain ⟨hi, q5, q6⟩ := bind_eq q4
  rw [vSl_def, a _ q1, Option.bind_some, b _ q3, Option.bind_some, c _ q5, Option.bind_some, q6]
/-! list(..), tuple(..) of data -/
def listD (d : D) : Option (List D) := match opList [d] with | some (.lst ds) => some ds | _ => none
theorem b_listD (d : D) (xs : List D) (h : listD d = some xs) : opList [d] = some (eL eD xs) := by
  unfold listD at h
  split at h
  · rename_i ds q
    cases h
    rw [q, eL_id]
  · cases h
def tupleD (d : D) : Option D := opTuple [d]
theorem b_tupleD (d : D) (x : D) (h : tupleD d = some x) : opTuple [d] = some (eD x) := h
theorem argsP2 {x : α} {y : β} (a : EvP f δ e x) (b : EvP g δ e2 y) : aCons f (aCons g aNil) δ = some [e x, e2 y] := by
  unfold EvP at *
  rw [aCons_def, a, Option.bind_some, aCons_def, b]; rfl
end
/-! ### methods of a class -/
structure DfnM (K : PySem.W.Frag) (x qual : Str) (st : Stmt) (ps : List Str) where
  f : Addr
  fd : FuncData
  fn : Fun K x qual st f fd
  bd : Binds K fd ps []
/-! ### boards, games -/
structure TBoard where
  wide : Int
  high : Int
  holes : List Int
  deriving DecidableEq
def eBoard (b : TBoard) : D := .ins "Board" [("wide", .int b.wide), ("high", .int b.high), ("holes", eL .int b.holes)]
structure TGame where
  board : TBoard
  kinds : List Str
  rules : List (Str × Str × Str × Int × Int)
  turns : List (Str × Str)
  ends : List (Str × Str)
  stuck : Str
  deriving DecidableEq
def eGame (g : TGame) : D := .ins "Game" [("board", eBoard g.board), ("kinds", eL D.str g.kinds), ("rules", eL (eT5 D.str D.str D.str D.int D.int) g.rules), ("turns", eL (eT2 D.str D.str) g.turns), ("ends", eL (eT2 D.str D.str) g.ends), ("stuck", .str g.stuck)]
theorem slf_int (a : Int) : isSlf (.int a) = false := rfl
/-! ### a tuple of the module's top -/
theorem ktup_rep {K : PySem.W.Frag} {Γ : CM} {A : Addr} {o : Obj} {its : Array Value} {n : Nat} {ds : List D} {ws : List V} (l : K.lookup A = some o) (hc : o.cls = .type "tuple") (hd : o.data = .seq its n) (hz : its.size ≤ sizeLine) (hv : Vals ws its.toList) (hl : ds.length ≤ sizeLine) (r : ∀ S, RepL K Γ S ds ws) : ∀ S, Rep K Γ S (.ktup ds) (.ref A) := fun S =>
  ⟨A, ws, rfl, .inr ⟨o, its, n, l, hc, hd, hz, hv⟩, hl, r S⟩
end Dl
/-! L: dicts, list(dict), sorted of pairs. -/
namespace Dl
open PySem L2
def kII (p : Int × Int) : List Key := [.inl p.1, .inl p.2]
def kSI (p : Str × Int) : List Key := [.inr p.1, .inl p.2]
theorem kI_inj (a b : Int) (h : kI a = kI b) : a = b := Sum.inl.inj h
theorem kS_inj (a b : Str) (h : kS a = kS b) : a = b := Sum.inr.inj h
theorem kII_inj (a b : Int × Int) (h : kII a = kII b) : a = b := by
  have h : [Sum.inl a.1, Sum.inl a.2] = ([.inl b.1, .inl b.2] : List Key) := h
  injection h with h1 h2
  injection h2 with h2 _
  exact Prod.ext (Sum.inl.inj h1) (Sum.inl.inj h2)
theorem kSI_inj (a b : Str × Int) (h : kSI a = kSI b) : a = b := by
  have h : [Sum.inr a.1, Sum.inl a.2] = ([.inr b.1, .inl b.2] : List Key) := h
  injection h with h1 h2
  injection h2 with h2 _
  exact Prod.ext (Sum.inr.inj h1) (Sum.inl.inj h2)
section
variable {κ κ' α : Type} [DecidableEq κ] [DecidableEq κ']
def putA (kvs : List (κ × α)) (k : κ) (a : α) : List (κ × α) := if (kvs.any fun kv => decide (kv.1 = k)) = true then kvs.map (fun kv => if kv.1 = k then (kv.1, a) else kv) else kvs ++ [(k, a)]
def putDT (kvs : List (κ × α)) (k : κ) (a : α) : Option (List (κ × α)) := if kvs.length < sizeLine then some (putA kvs k a) else none
theorem put_enc {ke : κ → κ'} (inj : ∀ a b, ke a = ke b → a = b) (e : α → D) (kvs : List (κ × α)) (k : κ) (a : α) : putD (kvs.map fun p => (ke p.1, e p.2)) (ke k) (e a) = (putA kvs k a).map fun p => (ke p.1, e p.2) := by
  have iff : ∀ j, (ke j = ke k) = (j = k) := fun j => propext ⟨inj j k, fun h => by rw [h]⟩
  unfold putD putA
  have h1 : (kvs.map fun p => (ke p.1, e p.2)).any (fun kv => decide (kv.1 = ke k)) = kvs.any fun kv => decide (kv.1 = k) := by
    rw [List.any_map]
    congr 1
    funext p
    show decide (ke p.1 = ke k) = decide (p.1 = k)
    exact decide_eq_decide.mpr (by rw [iff])
  rw [h1]
  by_cases c : (kvs.any fun kv => decide (kv.1 = k)) = true
  · rw [if_pos c, if_pos c, List.map_map, List.map_map]
    refine List.map_congr_left fun p _ => ?_
    show (if ke p.1 = ke k then (ke p.1, e a) else (ke p.1, e p.2)) = (ke (if p.1 = k then (p.1, a) else p).1, e (if p.1 = k then (p.1, a) else p).2)
    by_cases q : p.1 = k
    · rw [if_pos q, if_pos (by rw [q])]
    · rw [if_neg q, if_neg (fun z => q (inj _ _ z))]
  · rw [if_neg c, if_neg c, List.map_append]; rfl
end
section
variable {κ α β : Type} [DecidableEq κ] {fk fv : Ev} {s' : Sv} {δ : Env} {e : α → D} {g : β → Out} {i : Nat} {kvs : List (κ × α)} {ek : κ → D}
theorem stPutK {ke : κ → Key} {K : List (κ × α) → Option β} {T : Option α} {k : Option κ} (inj : ∀ a b, ke a = ke b → a = b) (hk : ∀ j, keyD (ek j) = some (ke j)) (a : EvM fv δ e T) (b : EvM fk δ ek k) (h : ∀ v, St s' (δ.set i (some (eDK ke e v))) g (K v)) (hv : δ[i]? = some (some (eDK ke e kvs)) := by rfl) :
    St (sSeq (sPut i fk fv) s') δ g (T.bind fun x => k.bind fun k => (putDT kvs k x).bind K) := fun r q => by
  obtain ⟨x, q1, q2⟩ := bind_eq q
  obtain ⟨j, q3, q4⟩ := bind_eq q2
  obtain ⟨v, q5, q6⟩ := bind_eq q4
  unfold putDT at q5
  obtain ⟨c, q5⟩ := ite_some q5
  subst q5
  have ee : sPut i fk fv δ = some (.nx (δ.set i (some (eDK ke e (putA kvs j x))))) := by
    rw [sPut_def, a x q1, Option.bind_some, b j q3, Option.bind_some, vVar_def, hv]
    show ((keyD (ek j)).bind fun j => if (kvs.map _).length < sizeLine then some (D.dicK (putD (kvs.map _) j (e x))) else none).map _ = _
    rw [hk, Option.bind_some, List.length_map, if_pos c, put_enc inj]; rfl
  rw [sSeq_def, ee]
  exact h _ r q6
theorem stPutT {ke : κ → List Key} {K : List (κ × α) → Option β} {T : Option α} {k : Option κ} (inj : ∀ a b, ke a = ke b → a = b) (hk : ∀ j, keysD (ek j) = some (ke j)) (a : EvM fv δ e T) (b : EvM fk δ ek k) (h : ∀ v, St s' (δ.set i (some (eDT ke e v))) g (K v)) (hv : δ[i]? = some (some (eDT ke e kvs)) := by rfl) :
    St (sSeq (sPut i fk fv) s') δ g (T.bind fun x => k.bind fun k => (putDT kvs k x).bind K) := fun r q => by
  obtain ⟨x, q1, q2⟩ := bind_eq q
  obtain ⟨j, q3, q4⟩ := bind_eq q2
  obtain ⟨v, q5, q6⟩ := bind_eq q4
  unfold putDT at q5
  obtain ⟨c, q5⟩ := ite_some q5
  subst q5
  have ee : sPut i fk fv δ = some (.nx (δ.set i (some (eDT ke e (putA kvs j x))))) := by
    rw [sPut_def, a x q1, Option.bind_some, b j q3, Option.bind_some, vVar_def, hv]
    show ((keysD (ek j)).bind fun j => if (kvs.map _).length < sizeLine then some (D.dicT (putD (kvs.map _) j (e x))) else none).map _ = _
    rw [hk, Option.bind_some, List.length_map, if_pos c, put_enc inj]; rfl
  rw [sSeq_def, ee]
  exact h _ r q6
end
theorem hkI (i : Int) : keyD (.int i) = some (kI i) := rfl
theorem hkS (x : Str) : keyD (.str x) = some (kS x) := rfl
theorem hkII (p : Int × Int) : keysD (eT2 D.int D.int p) = some (kII p) := rfl
theorem hkSI (p : Str × Int) : keysD (eT2 D.str D.int p) = some (kSI p) := rfl
/-! list(dict) -/
def keysT {κ α : Type} (ok : κ → Bool) (kvs : List (κ × α)) : Option (List κ) := if kvs.length ≤ sizeLine ∧ (kvs.all fun kv => ok kv.1) = true then some (kvs.map (·.1)) else none
theorem b_listDK {κ α : Type} {ke : κ → Key} {ek : κ → D} {e : α → D} (h : ∀ k, kD (ke k) = ek k) (kvs : List (κ × α)) (ks : List κ) (q : keysT (fun k => kOk (ke k)) kvs = some ks) : opListD [eDK ke e kvs] = some (eL ek ks) := by
  unfold keysT at q
  obtain ⟨c, rfl⟩ := ite_some q
  show (if (kvs.map fun p => (ke p.1, e p.2)).length ≤ sizeLine ∧ ((kvs.map fun p => (ke p.1, e p.2)).all fun kv => kOk kv.1) = true then some (D.lst ((kvs.map fun p => (ke p.1, e p.2)).map fun kv => kD kv.1)) else none) = _
  rw [if_pos ⟨by rw [List.length_map]; exact c.1, by rw [List.all_map]; exact c.2⟩]
  unfold eL
  rw [List.map_map, List.map_map]
  congr 2
  exact List.map_congr_left fun p _ => h p.1
theorem b_listDT {κ α : Type} {ke : κ → List Key} {ek : κ → D} {e : α → D} (h : ∀ k, D.tup ((ke k).map kD) = ek k) (kvs : List (κ × α)) (ks : List κ) (q : keysT (fun k => ksOk (ke k)) kvs = some ks) : opListD [eDT ke e kvs] = some (eL ek ks) := by
  unfold keysT at q
  obtain ⟨c, rfl⟩ := ite_some q
  show (if (kvs.map fun p => (ke p.1, e p.2)).length ≤ sizeLine ∧ ((kvs.map fun p => (ke p.1, e p.2)).all fun kv => ksOk kv.1) = true then some (D.lst ((kvs.map fun p => (ke p.1, e p.2)).map fun kv => .tup (kv.1.map kD))) else none) = _
  rw [if_pos ⟨by rw [List.length_map]; exact c.1, by rw [List.all_map]; exact c.2⟩]
  unfold eL
  rw [List.map_map, List.map_map]
  congr 2
  exact List.map_congr_left fun p _ => h p.1
theorem kdI (i : Int) : kD (kI i) = .int i := rfl
theorem kdS (x : Str) : kD (kS x) = .str x := rfl
theorem kdII (p : Int × Int) : D.tup ((kII p).map kD) = eT2 D.int D.int p := rfl
theorem kdSI (p : Str × Int) : D.tup ((kSI p).map kD) = eT2 D.str D.int p := rfl
/-! sorted of pairs -/
def sortPT (ps : List (Int × Int)) : Option (List (Int × Int)) := some (sortP ps)
theorem pairsOf_enc : ∀ (ps : List (Int × Int)), pairsOf (ps.map (eT2 D.int D.int)) = some ps
  | [] => rfl
  | p :: ps => by
    show (pairsOf (ps.map (eT2 D.int D.int))).map ((p.1, p.2) :: ·) = _
    rw [pairsOf_enc ps]; rfl
theorem b_sortP (ps qs : List (Int × Int)) (h : sortPT ps = some qs) : opSortedD [eL (eT2 D.int D.int) ps] = some (eL (eT2 D.int D.int) qs) := by
  cases h
  cases ps with
  | nil =>
    have e1 : sortI [] = [] := List.Perm.eq_nil (sortI_perm [])
    have e2 : sortP [] = [] := List.Perm.eq_nil (sortP_perm [])
    show some (D.lst ((sortI []).map D.int)) = _
    rw [e1, e2]; rfl
  | cons p ps =>
    show (pairsOf ((p :: ps).map (eT2 D.int D.int))).map (fun ps => D.lst ((sortP ps).map pD)) = _
    rw [pairsOf_enc]; rfl
/-- membership by the equality of the items (products) -/
def memB {α : Type} [DecidableEq α] (a : α) (l : List α) : Bool := decide (a ∈ l)
theorem memB_iff {α : Type} [DecidableEq α] {a : α} {l : List α} : memB a l = true ↔ a ∈ l := by unfold memB; exact decide_eq_true_iff
theorem itTup3 {α : Type} {f : Ev} {δ : Env} {e : α → D} {p : α × α × α} (a : EvP f δ (eT3 e e e) p) : ItP (iAnyF f) δ e [p.1, p.2.1, p.2.2] := by unfold EvP ItP at *; rw [iAnyF_def, a]; rfl
/-! while with a return -/
section
variable {σ ρ : Type} {p : Env → Option Bool} {body : Sv} {δ : Env}
theorem whT_ok {E : σ → Env} {e2 : ρ → D} {Pw : σ → Option Bool} {Bd : σ → Option (Ctl σ ρ)} (hp : ∀ v, TsM p (E v) (Pw v)) (hb : ∀ v, St body (E v) (outF E e2) (Bd v)) : ∀ (n : Nat) (v : σ) (r : Ctl σ ρ), whT Pw Bd n v = some r → whileD p body n (E v) = some (outF E e2 r)
  | 0, v, r, h => by cases h
  | n + 1, v, r, h => by
    obtain ⟨c, q1, q2⟩ := bind_eq h
    show ((p (E v)).bind fun b => if b = true then (body (E v)).bind fun o => match o with | .nx δ1 => whileD p body n δ1 | o => some o else some (.nx (E v))) = _
    rw [hp v c q1, Option.bind_some]
    cases c with
    | true =>
      rw [if_pos rfl] at q2 ⊢
      obtain ⟨o, q3, q4⟩ := bind_eq q2
      rw [hb v o q3, Option.bind_some]
      cases o with
      | nx v' => exact whT_ok hp hb n v' r q4
      | rt x => cases q4; rfl
    | false => rw [if_neg Bool.false_ne_true] at q2 ⊢; cases q2; rfl
theorem stWhileC {E : σ → Env} {e2 : ρ → D} {Pw : σ → Option Bool} {Bd : σ → Option (Ctl σ ρ)} (v0 : σ) (h0 : E v0 = δ) (hp : ∀ v, TsM p (E v) (Pw v)) (hb : ∀ v, St body (E v) (outF E e2) (Bd v)) : St (sWhile p body) δ (outF E e2) (whT Pw Bd fuel v0) := fun r q => by
  rw [← h0]; exact whT_ok hp hb fuel v0 r q
end
end Dl
/-! L: dict(pairs), d.get, d[k] of dicts. -/
namespace Dl
open PySem L2
section
variable {κ α : Type} [DecidableEq κ]
def dictT (ps : List (κ × α)) : List (κ × α) := ps.foldl (fun acc p => putA acc p.1 p.2) []
def lookA : List (κ × α) → κ → Option α
  | [], _ => none
  | (k, a) :: r, j => if k = j then some a else lookA r j
theorem merge_enc {κ' : Type} [DecidableEq κ'] {ke : κ → κ'} (inj : ∀ a b, ke a = ke b → a = b) (e : α → D) : ∀ (ps acc : List (κ × α)), mergeD (acc.map fun p => (ke p.1, e p.2)) (ps.map fun p => (ke p.1, e p.2)) = (ps.foldl (fun acc p => putA acc p.1 p.2) acc).map fun p => (ke p.1, e p.2)
  | [], _ => rfl
  | p :: ps, acc => by
    have : mergeD (acc.map fun p => (ke p.1, e p.2)) ((p :: ps).map fun p => (ke p.1, e p.2)) = mergeD (putD (acc.map fun p => (ke p.1, e p.2)) (ke p.1) (e p.2)) (ps.map fun p => (ke p.1, e p.2)) := rfl
    rw [this, put_enc inj, merge_enc inj e ps]; rfl
theorem pairsKD_enc {ke : κ → Key} {ek : κ → D} (hk : ∀ j, keyD (ek j) = some (ke j)) (e : α → D) : ∀ ps : List (κ × α), pairsKD (ps.map (eT2 ek e)) = some (ps.map fun p => (ke p.1, e p.2))
  | [] => rfl
  | p :: ps => by
    show (keyD (ek p.1)).bind (fun j => (pairsKD (ps.map (eT2 ek e))).map ((j, e p.2) :: ·)) = _
    rw [hk, Option.bind_some, pairsKD_enc hk e ps]; rfl
theorem b_dictP {ke : κ → Key} {ek : κ → D} {e : α → D} (inj : ∀ a b, ke a = ke b → a = b) (hk : ∀ j, keyD (ek j) = some (ke j)) (ps : List (κ × α)) : opDictP [eL (eT2 ek e) ps] = some (eDK ke e (dictT ps)) := by
  show (pairsKD (ps.map (eT2 ek e))).map (fun kvs => D.dicK (mergeD [] kvs)) = _
  rw [pairsKD_enc hk]
  show some (D.dicK (mergeD (([] : List (κ × α)).map fun p => (ke p.1, e p.2)) _)) = _
  rw [merge_enc inj]; rfl
theorem lookK_enc {ke : κ → Key} (inj : ∀ a b, ke a = ke b → a = b) (e : α → D) (j : κ) : ∀ kvs : List (κ × α), lookK (kvs.map fun p => (ke p.1, e p.2)) (ke j) = (lookA kvs j).map e
  | [] => rfl
  | (k, a) :: r => by
    show (if ke k = ke j then some (e a) else lookK (r.map fun p => (ke p.1, e p.2)) (ke j)) = (if k = j then some a else lookA r j).map e
    by_cases c : k = j
    · rw [if_pos c, if_pos (by rw [c])]; rfl
    · rw [if_neg c, if_neg fun z => c (inj _ _ z)]; exact lookK_enc inj e j r
theorem lookT_enc {ke : κ → List Key} (inj : ∀ a b, ke a = ke b → a = b) (e : α → D) (j : κ) : ∀ kvs : List (κ × α), lookT (kvs.map fun p => (ke p.1, e p.2)) (ke j) = (lookA kvs j).map e
  | [] => rfl
  | (k, a) :: r => by
    show (if ke k = ke j then some (e a) else lookT (r.map fun p => (ke p.1, e p.2)) (ke j)) = (if k = j then some a else lookA r j).map e
    by_cases c : k = j
    · rw [if_pos c, if_pos (by rw [c])]; rfl
    · rw [if_neg c, if_neg fun z => c (inj _ _ z)]; exact lookT_enc inj e j r
variable {fo fk fd : Ev} {δ : Env} {e : α → D} {ek : κ → D} {X : Option (List (κ × α))} {Kx : Option κ} {Dx : Option α}
theorem vGet2_def (fo fk fd : Ev) (δ : Env) : vGet2 fo fk fd δ = (fo δ).bind fun o => (fk δ).bind fun k => (fd δ).bind fun d => opGet o k d := rfl
theorem vGet1_def (fo fk : Ev) (δ : Env) : vGet1 fo fk δ = (fo δ).bind fun o => (fk δ).bind fun k => opGet o k .non := rfl
theorem opGet_K {ke : κ → Key} (inj : ∀ a b, ke a = ke b → a = b) (hk : ∀ j, keyD (ek j) = some (ke j)) (kvs : List (κ × α)) (j : κ) (d : D) : opGet (eDK ke e kvs) (ek j) d = some (((lookA kvs j).map e).getD d) := by
  show (keyD (ek j)).map (fun j => (lookK (kvs.map fun p => (ke p.1, e p.2)) j).getD d) = _
  rw [hk]
  show some ((lookK (kvs.map fun p => (ke p.1, e p.2)) (ke j)).getD d) = _
  rw [lookK_enc inj]
theorem opGet_T {ke : κ → List Key} (inj : ∀ a b, ke a = ke b → a = b) (hk : ∀ j, keysD (ek j) = some (ke j)) (kvs : List (κ × α)) (j : κ) (d : D) : opGet (eDT ke e kvs) (ek j) d = some (((lookA kvs j).map e).getD d) := by
  show (keysD (ek j)).map (fun j => (lookT (kvs.map fun p => (ke p.1, e p.2)) j).getD d) = _
  rw [hk]
  show some ((lookT (kvs.map fun p => (ke p.1, e p.2)) (ke j)).getD d) = _
  rw [lookT_enc inj]
theorem getD_map (o : Option α) (d : α) : (o.map e).getD (e d) = e (o.getD d) := by cases o <;> rfl
theorem getD_non (o : Option α) : (o.map e).getD .non = eO e o := by cases o <;> rfl
theorem getK2 {ke : κ → Key} (inj : ∀ a b, ke a = ke b → a = b) (hk : ∀ j, keyD (ek j) = some (ke j)) (a : EvM fo δ (eDK ke e) X) (b : EvM fk δ ek Kx) (c : EvM fd δ e Dx) : EvM (vGet2 fo fk fd) δ e (X.bind fun o => Kx.bind fun k => Dx.bind fun d => some ((lookA o k).getD d)) := fun r q => by
  obtain ⟨o, q1, q2⟩ := bind_eq q
  obtain ⟨k, q3, q4⟩ := bind_eq q2
  obtain ⟨d, q5, q6⟩ := bind_eq q4
  cases q6
  rw [vGet2_def, a o q1, Option.bind_some, b k q3, Option.bind_some, c d q5, Option.bind_some, opGet_K inj hk, getD_map]
theorem getT2 {ke : κ → List Key} (inj : ∀ a b, ke a = ke b → a = b) (hk : ∀ j, keysD (ek j) = some (ke j)) (a : EvM fo δ (eDT ke e) X) (b : EvM fk δ ek Kx) (c : EvM fd δ e Dx) : EvM (vGet2 fo fk fd) δ e (X.bind fun o => Kx.bind fun k => Dx.bind fun d => some ((lookA o k).getD d)) := fun r q => by
  obtain ⟨o, q1, q2⟩ := bind_eq q
  obtain ⟨k, q3, q4⟩ := bind_eq q2
  obtain ⟨d, q5, q6⟩ := bind_eq q4
  cases q6
  rw [vGet2_def, a o q1, Option.bind_some, b k q3, Option.bind_some, c d q5, Option.bind_some, opGet_T inj hk, getD_map]
theorem getK1 {ke : κ → Key} (inj : ∀ a b, ke a = ke b → a = b) (hk : ∀ j, keyD (ek j) = some (ke j)) (a : EvM fo δ (eDK ke e) X) (b : EvM fk δ ek Kx) : EvM (vGet1 fo fk) δ (eO e) (X.bind fun o => Kx.bind fun k => some (lookA o k)) := fun r q => by
  obtain ⟨o, q1, q2⟩ := bind_eq q
  obtain ⟨k, q3, q4⟩ := bind_eq q2
  cases q4
  rw [vGet1_def, a o q1, Option.bind_some, b k q3, Option.bind_some, opGet_K inj hk, getD_non]
theorem getT1 {ke : κ → List Key} (inj : ∀ a b, ke a = ke b → a = b) (hk : ∀ j, keysD (ek j) = some (ke j)) (a : EvM fo δ (eDT ke e) X) (b : EvM fk δ ek Kx) : EvM (vGet1 fo fk) δ (eO e) (X.bind fun o => Kx.bind fun k => some (lookA o k)) := fun r q => by
  obtain ⟨o, q1, q2⟩ := bind_eq q
  obtain ⟨k, q3, q4⟩ := bind_eq q2
  cases q4
  rw [vGet1_def, a o q1, Option.bind_some, b k q3, Option.bind_some, opGet_T inj hk, getD_non]
theorem p_ixdK {ke : κ → Key} (inj : ∀ a b, ke a = ke b → a = b) (hk : ∀ j, keyD (ek j) = some (ke j)) : Par2 opIx (eDK ke e) ek e lookA := fun kvs k c h => by
  have e1 : opIx (eDK ke e kvs) (ek k) = (keyD (ek k)).bind fun j => lookK (kvs.map fun p => (ke p.1, e p.2)) j := by
    show opIx (.dicK _) _ = _
    cases ek k <;> rfl
  rw [e1, hk, Option.bind_some, lookK_enc inj, h]; rfl
theorem p_ixdT {ke : κ → List Key} (inj : ∀ a b, ke a = ke b → a = b) (hk : ∀ j, keysD (ek j) = some (ke j)) : Par2 opIx (eDT ke e) ek e lookA := fun kvs k c h => by
  have e1 : opIx (eDT ke e kvs) (ek k) = (keysD (ek k)).bind fun j => lookT (kvs.map fun p => (ke p.1, e p.2)) j := by
    show opIx (.dicT _) _ = _
    cases ek k <;> rfl
  rw [e1, hk, Option.bind_some, lookT_enc inj, h]; rfl
end
theorem b_listS (x : Str) : opListE [.str x] = some (eL D.str (sgs x)) := by
  show some (D.lst (signs x)) = _
  unfold eL sgs signs
  rw [List.map_map]; rfl
end Dl
/-! L: x.pop(i), x.clear(). -/
namespace Dl
open PySem L2
section
variable {α β : Type} {s' : Sv} {δ : Env} {e : α → D} {g : β → Out} {f : Ev} {i : Nat} {xs : List α}
def popLT (xs : List α) (k : Int) : Option (List α) := if -(2 ^ 63) ≤ k ∧ k < 2 ^ 63 then (ixN xs.length k).bind fun j => some (xs.eraseIdx j) else none
theorem sPop_def (i : Nat) (f : Ev) (δ : Env) : sPop i f δ = (vVar i δ).bind fun l => match l with
  | .lst ds => (f δ).bind fun d => match d with
    | .int j => if -(2 ^ 63) ≤ j ∧ j < 2 ^ 63 then (ixN ds.length j).bind fun k => some (putL i δ (ds.eraseIdx k)) else none
    | _ => none
  | _ => none := rfl
theorem pop_eq {v : List α} {k : Int} (h : popLT xs k = some v) (hf : f δ = some (.int k)) (hv : δ[i]? = some (some (eL e xs))) : sPop i f δ = some (.nx (δ.set i (some (eL e v)))) := by
  unfold popLT at h
  by_cases c : -(2 ^ 63) ≤ k ∧ k < 2 ^ 63
  · rw [if_pos c] at h
    obtain ⟨j, e1, e2⟩ := bind_eq h
    cases e2
    rw [sPop_def, vVar_def, hv]
    show ((f δ).bind fun d => match d with | .int j => if -(2 ^ 63) ≤ j ∧ j < 2 ^ 63 then (ixN (xs.map e).length j).bind fun k => some (putL i δ ((xs.map e).eraseIdx k)) else none | _ => none) = _
    rw [hf, Option.bind_some]
    show (if -(2 ^ 63) ≤ k ∧ k < 2 ^ 63 then (ixN (xs.map e).length k).bind fun k => some (putL i δ ((xs.map e).eraseIdx k)) else none) = _
    rw [if_pos c, List.length_map, e1, Option.bind_some]
    unfold eL putL
    rw [List.eraseIdx_eq_take_drop_succ, List.eraseIdx_eq_take_drop_succ, List.map_append, List.map_take, List.map_drop]
  · rw [if_neg c] at h; cases h
theorem stPop {K : List α → Option β} {k : Option Int} (a : EvM f δ D.int k) (h : ∀ v, St s' (δ.set i (some (eL e v))) g (K v)) (hv : δ[i]? = some (some (eL e xs)) := by rfl) : St (sSeq (sPop i f) s') δ g (k.bind fun k => (popLT xs k).bind K) := fun r q => by
  obtain ⟨k', q3, q4⟩ := bind_eq q
  obtain ⟨v, q5, q6⟩ := bind_eq q4
  rw [sSeq_def, pop_eq q5 (a k' q3) hv]
  exact h v r q6
theorem stClr {K : Option β} (h : St s' (δ.set i (some (eL e ([] : List α)))) g K) (hv : δ[i]? = some (some (eL e xs)) := by rfl) : St (sSeq (sClr i) s') δ g K := fun r q => by
  have : sClr i δ = some (.nx (δ.set i (some (eL e ([] : List α))))) := by
    unfold sClr
    rw [vVar_def, hv]; rfl
  rw [sSeq_def, this]
  exact h r q
end
end Dl
/-! L: sorted of texts. -/
namespace Dl
open PySem L2
theorem strsOf_enc : ∀ xs : List Str, strsOf (xs.map D.str) = some xs
  | [] => rfl
  | x :: xs => by
    show (strsOf (xs.map D.str)).map (x :: ·) = _
    rw [strsOf_enc xs]; rfl
def sortST (xs : List Str) : Option (List Str) := some (sortS xs)
theorem b_sortS (xs ys : List Str) (h : sortST xs = some ys) : opSortedS [eL D.str xs] = some (eL D.str ys) := by
  cases h
  show (strsOf (xs.map D.str)).map (fun xs => D.lst ((sortS xs).map D.str)) = _
  rw [strsOf_enc]; rfl
end Dl
/-! L: xs.index(y), texts. -/
namespace Dl
open PySem L2
def indexT (xs : List Str) (y : Str) : Option Int := (xs.findIdx? fun x => decide (x = y)).map fun (j : Nat) => (j : Int)
theorem idxM {fo fe : Ev} {δ : Env} {X : Option (List Str)} {Y : Option Str} (a : EvM fo δ (eL D.str) X) (b : EvM fe δ D.str Y) : EvM (vIndex fo fe) δ D.int (X.bind fun xs => Y.bind fun y => indexT xs y) := fun r q => by
  obtain ⟨xs, q1, q2⟩ := bind_eq q
  obtain ⟨y, q3, q4⟩ := bind_eq q2
  unfold indexT at q4
  obtain ⟨j, q5, rfl⟩ := map_some q4
  have e : vIndex fo fe δ = (fo δ).bind fun l => (fe δ).bind fun y => opIndex l y := rfl
  rw [e, a xs q1, Option.bind_some, b y q3, Option.bind_some]
  show (strsOf (xs.map D.str)).bind (fun xs => (xs.findIdx? fun x => decide (x = y)).map fun (j : Nat) => D.int (j : Int)) = _
  rw [strsOf_enc, Option.bind_some, q5]; rfl
end Dl
namespace Dl
open PySem L2
def neBX (a b : D) : Option Bool := if (isE0 a && isE0 b) = true then some false else neB a b
theorem d_neX : Par2 opNeX eD eD D.bl neBX := fun a b c h => by
  unfold neBX at h; unfold opNeX
  split at h
  · rename_i q; cases h; rw [if_pos q]
  · rename_i q; rw [if_neg q]; exact d_ne a b c h
end Dl
/-! L: a triple out of any datum. -/
namespace Dl
open PySem L2
def cT3 {α β γ : Type} (c1 : D → Option α) (c2 : D → Option β) (c3 : D → Option γ) : D → Option (α × β × γ)
  | .tup [a, b, c] => (c1 a).bind fun x => (c2 b).bind fun y => (c3 c).bind fun z => some (x, y, z)
  | _ => none
theorem cT3_ok {α β γ : Type} {e1 : α → D} {e2 : β → D} {e3 : γ → D} {c1 : D → Option α} {c2 : D → Option β} {c3 : D → Option γ} (h1 : ∀ d a, c1 d = some a → d = e1 a) (h2 : ∀ d a, c2 d = some a → d = e2 a) (h3 : ∀ d a, c3 d = some a → d = e3 a) : ∀ d p, cT3 c1 c2 c3 d = some p → d = eT3 e1 e2 e3 p := fun d p h => by
  unfold cT3 at h
  split at h
  · obtain ⟨x, q1, h⟩ := bind_eq h
    obtain ⟨y, q2, h⟩ := bind_eq h
    obtain ⟨z, q3, h⟩ := bind_eq h
    cases h
    rw [h1 _ _ q1, h2 _ _ q2, h3 _ _ q3]; rfl
  · cases h
end Dl
/-! plain lemmas over typed programs: loops, comprehensions, sizes, signs. -/
namespace Dl
open PySem L2
section
variable {α β σ ρ : Type}
theorem le_line {n : Nat} (h : n ≤ 1000000) : n ≤ sizeLine := Nat.le_trans h (by decide)
theorem lt_line {n : Nat} (h : n ≤ 1000000) : n < sizeLine := Nat.lt_of_le_of_lt h (by decide)
theorem appT_ok {xs : List α} {x : α} (h : xs.length ≤ 1000000) : appT xs x = some (xs ++ [x]) := if_pos (lt_line h)
theorem extT_ok {xs ys : List α} (h : xs.length + ys.length ≤ 1000000) : extT xs ys = some (xs ++ ys) := if_pos (le_line h)
theorem catL_ok {xs ys : List α} (h : xs.length + ys.length ≤ 1000000) : catL xs ys = some (xs ++ ys) := if_pos (le_line h)
theorem catS_ok {a b : Str} (h : a.length + b.length ≤ 1000000) : catS a b = some (a ++ b) := if_pos (le_line h)
theorem rngT_ok {n : Int} (h0 : -1000000 ≤ n) (h1 : n ≤ 1000000) : rngT n = some (rng n) := if_pos ⟨h0, h1⟩
theorem rng2T_ok {a b : Int} (h : -1000000 ≤ a ∧ a ≤ 1000000 ∧ -1000000 ≤ b ∧ b ≤ 1000000) : rng2T a b = some (rng2 a b) := if_pos h
theorem mem_rng {n k : Int} : k ∈ rng n ↔ 0 ≤ k ∧ k < n := by
  unfold rng
  rw [List.mem_map]
  constructor
  · rintro ⟨i, hi, rfl⟩; have := List.mem_range.mp hi; omega
  · intro h; exact ⟨k.toNat, List.mem_range.mpr (by omega), by omega⟩
theorem mem_rng2 {a b k : Int} : k ∈ rng2 a b ↔ a ≤ k ∧ k < b := by
  unfold rng2
  rw [List.mem_map]
  constructor
  · rintro ⟨i, hi, rfl⟩; have := List.mem_range.mp hi; omega
  · intro h; exact ⟨(k - a).toNat, List.mem_range.mpr (by omega), by omega⟩
theorem rng_len (n : Int) : (rng n).length = n.toNat := by unfold rng; simp
theorem rng_get {n : Int} {i : Nat} (h : (i : Int) < n) : (rng n)[i]? = some (i : Int) := by
  unfold rng
  rw [List.getElem?_map, List.getElem?_range (by omega)]; rfl
theorem rng_nodup (n : Int) : (rng n).Nodup := by
  unfold rng
  refine List.pairwise_map.mpr (List.Pairwise.imp (R := (· < ·)) (fun {a b} h => by omega) ?_)
  exact List.pairwise_lt_range
theorem rng_sorted (n : Int) : (rng n).Pairwise (· < ·) := by
  unfold rng
  refine List.pairwise_map.mpr (List.Pairwise.imp (R := (· < ·)) (fun {a b} h => by omega) ?_)
  exact List.pairwise_lt_range
/-! ### loops -/
theorem foldT_nil (B : σ → α → Option σ) (v : σ) : foldT B [] v = some v := rfl
theorem foldT_cons (B : σ → α → Option σ) (x : α) (xs : List α) (v : σ) : foldT B (x :: xs) v = (B v x).bind fun v' => foldT B xs v' := rfl
theorem forT_nil (B : σ → α → Option (Ctl σ ρ)) (v : σ) : forT B [] v = some (.nx v) := rfl
theorem forT_cons (B : σ → α → Option (Ctl σ ρ)) (x : α) (xs : List α) (v : σ) : forT B (x :: xs) v = (B v x).bind fun c => match c with | .nx v' => forT B xs v' | .rt r => some (.rt r) := rfl
theorem foldT_eq {B : σ → α → Option σ} {f : σ → α → σ} : ∀ {xs : List α} {v : σ}, (∀ x ∈ xs, ∀ v, B v x = some (f v x)) → foldT B xs v = some (xs.foldl f v)
  | [], _, _ => rfl
  | x :: xs, v, h => by
    rw [foldT_cons, h x List.mem_cons_self, Option.bind_some, foldT_eq fun y hy => h y (List.mem_cons_of_mem _ hy)]; rfl
/-- with an invariant -/
theorem foldT_inv {B : σ → α → Option σ} (P : List α → σ → Prop) : ∀ {xs pre : List α} {v : σ}, P pre v → (∀ pre x v, x ∈ xs → P pre v → ∃ v', B v x = some v' ∧ P (pre ++ [x]) v') → ∃ v', foldT B xs v = some v' ∧ P (pre ++ xs) v'
  | [], pre, v, h, _ => ⟨v, rfl, by rw [List.append_nil]; exact h⟩
  | x :: xs, pre, v, h, hb => by
    obtain ⟨v', e, h'⟩ := hb pre x v List.mem_cons_self h
    obtain ⟨v2, e2, h2⟩ := foldT_inv P (xs := xs) h' fun pre y w hy => hb pre y w (List.mem_cons_of_mem _ hy)
    exact ⟨v2, by rw [foldT_cons, e, Option.bind_some, e2], by rw [List.append_assoc] at h2; exact h2⟩
theorem foldT_pre {B : σ → α → Option σ} (P : List α → σ → Prop) {xs : List α} {v : σ} (h : P [] v) (hb : ∀ pre x v, x ∈ xs → P pre v → ∃ v', B v x = some v' ∧ P (pre ++ [x]) v') : ∃ v', foldT B xs v = some v' ∧ P xs v' :=
  foldT_inv P (pre := []) h hb
theorem foldT_keep {B : σ → α → Option σ} (P : σ → Prop) {xs : List α} {v : σ} (h : P v) (hb : ∀ x v, x ∈ xs → P v → ∃ v', B v x = some v' ∧ P v') : ∃ v', foldT B xs v = some v' ∧ P v' :=
  foldT_pre (fun _ => P) h fun _ x v hx hp => hb x v hx hp
theorem foldT_upto {B : σ → Int → Option σ} (P : Nat → σ → Prop) {n : Nat} {v : σ} (h : P 0 v) (hb : ∀ i v, i < n → P i v → ∃ v', B v (i : Int) = some v' ∧ P (i + 1) v') : ∃ v', foldT B (rng n) v = some v' ∧ P n v' := by
  have key : ∀ (k s : Nat) (v : σ), s + k = n → P s v → ∃ v', foldT B ((List.range' s k).map fun (i : Nat) => (i : Int)) v = some v' ∧ P n v' := by
    intro k
    induction k with
    | zero =>
      intro s v e h
      have : s = n := by omega
      exact ⟨v, rfl, this ▸ h⟩
    | succ k ih =>
      intro s v e h
      obtain ⟨v', e1, h1⟩ := hb s v (by omega) h
      obtain ⟨v2, e2, h2⟩ := ih (s + 1) v' (by omega) h1
      exact ⟨v2, by rw [List.range'_succ, List.map_cons, foldT_cons, e1, Option.bind_some, e2], h2⟩
  have := key n 0 v (by omega) h
  unfold rng
  rw [Int.toNat_natCast, List.range_eq_range']
  exact this
theorem forT_keep {B : σ → α → Option (Ctl σ ρ)} (P : σ → Prop) : ∀ {xs : List α} {v : σ}, P v → (∀ x v, x ∈ xs → P v → ∃ v', B v x = some (.nx v') ∧ P v') → ∃ v', forT B xs v = some (.nx v') ∧ P v'
  | [], v, h, _ => ⟨v, rfl, h⟩
  | x :: xs, v, h, hb => by
    obtain ⟨v', e, h'⟩ := hb x v List.mem_cons_self h
    obtain ⟨v2, e2, h2⟩ := forT_keep P (xs := xs) h' fun y w hy => hb y w (List.mem_cons_of_mem _ hy)
    exact ⟨v2, by rw [forT_cons, e, Option.bind_some]; exact e2, h2⟩
theorem forT_unit {B : Unit → α → Option (Ctl Unit ρ)} {xs : List α} (h : ∀ x ∈ xs, B () x = some (.nx ())) : forT B xs () = some (.nx ()) := by
  obtain ⟨v, e, _⟩ := forT_keep (fun _ => True) (xs := xs) (v := ()) (B := B) trivial fun x v hx _ => ⟨(), h x hx, trivial⟩
  exact e
/-- hands back r at the first bad one -/
theorem forT_any {B : Unit → α → Option (Ctl Unit ρ)} {bad : α → Bool} {r : ρ} : ∀ {xs : List α}, (∀ x ∈ xs, B () x = some (if bad x = true then .rt r else .nx ())) → forT B xs () = some (if xs.any bad = true then .rt r else .nx ())
  | [], _ => rfl
  | x :: xs, h => by
    rw [forT_cons, h x List.mem_cons_self, Option.bind_some, List.any_cons]
    cases q : bad x with
    | true => rfl
    | false => exact forT_any fun y hy => h y (List.mem_cons_of_mem _ hy)
theorem forT_find {B : Unit → α → Option (Ctl Unit ρ)} {f : α → Option ρ} : ∀ {xs : List α}, (∀ x ∈ xs, B () x = some (match f x with | some r => .rt r | none => .nx ())) → forT B xs () = some (match xs.findSome? f with | some r => .rt r | none => .nx ())
  | [], _ => rfl
  | x :: xs, h => by
    rw [forT_cons, h x List.mem_cons_self, Option.bind_some, List.findSome?_cons]
    cases q : f x with
    | some r => rfl
    | none => exact forT_find fun y hy => h y (List.mem_cons_of_mem _ hy)
theorem lcT_eq {P : α → Option Bool} {G : α → Option β} {p : α → Bool} {g : α → β} : ∀ {xs : List α}, (∀ x ∈ xs, P x = some (p x)) → (∀ x ∈ xs, p x = true → G x = some (g x)) → lcT P G xs = some ((xs.filter p).map g)
  | [], _, _ => rfl
  | x :: xs, h1, h2 => by
    have ih := lcT_eq (xs := xs) (fun y hy => h1 y (List.mem_cons_of_mem _ hy)) (fun y hy => h2 y (List.mem_cons_of_mem _ hy))
    show (P x).bind (fun b => if b = true then (G x).bind fun y => (lcT P G xs).bind fun ys => some (y :: ys) else lcT P G xs) = _
    rw [h1 x List.mem_cons_self, Option.bind_some, ih]
    cases q : p x with
    | true => rw [if_pos rfl, h2 x List.mem_cons_self q, List.filter_cons_of_pos q]; rfl
    | false => rw [if_neg Bool.false_ne_true, List.filter_cons_of_neg (by rw [q]; exact Bool.false_ne_true)]
theorem lcT_map {G : α → Option β} {g : α → β} {xs : List α} (h : ∀ x ∈ xs, G x = some (g x)) : lcT (fun _ => some true) G xs = some (xs.map g) := by
  rw [lcT_eq (p := fun _ => true) (g := g) (fun _ _ => rfl) (fun x hx _ => h x hx), List.filter_eq_self.mpr (fun _ _ => rfl)]
theorem lcT_each {G : α → Option β} {Q : β → Prop} : ∀ {xs : List α}, (∀ x ∈ xs, ∃ y, G x = some y ∧ Q y) → ∃ ys, lcT (fun _ => some true) G xs = some ys ∧ ys.length = xs.length ∧ ∀ y ∈ ys, Q y
  | [], _ => ⟨[], rfl, rfl, by simp⟩
  | x :: xs, h => by
    obtain ⟨y, e, q⟩ := h x List.mem_cons_self
    obtain ⟨ys, e2, l, q2⟩ := lcT_each (xs := xs) fun z hz => h z (List.mem_cons_of_mem _ hz)
    refine ⟨y :: ys, ?_, by rw [List.length_cons, List.length_cons, l], fun z hz => ?_⟩
    · show (some true).bind (fun b => if b = true then (G x).bind fun y => (lcT _ G xs).bind fun ys => some (y :: ys) else lcT _ G xs) = _
      rw [Option.bind_some, if_pos rfl, e, Option.bind_some, e2]; rfl
    · rcases List.mem_cons.mp hz with rfl | hz
      · exact q
      · exact q2 z hz
/-- a list grown by each item -/
theorem foldT_app {G : α → Option β} {g : α → β} : ∀ {xs : List α} {v0 : List β}, (∀ x ∈ xs, G x = some (g x)) → v0.length + xs.length ≤ 1000000 → foldT (fun v x => (G x).bind fun y => (appT v y).bind fun z => some z) xs v0 = some (v0 ++ xs.map g)
  | [], v0, _, _ => by rw [foldT_nil, List.map_nil, List.append_nil]
  | x :: xs, v0, h, l => by
    rw [List.length_cons] at l
    rw [foldT_cons, h x List.mem_cons_self, Option.bind_some, appT_ok (by omega), Option.bind_some, Option.bind_some, foldT_app (fun y hy => h y (List.mem_cons_of_mem _ hy)) (by rw [List.length_append, List.length_singleton]; omega), List.map_cons, List.append_assoc]; rfl
/-- a list grown by some items -/
theorem foldT_appIf {P : α → Option Bool} {G : α → Option β} {p : α → Bool} {g : α → β} : ∀ {xs : List α} {v0 : List β}, (∀ x ∈ xs, P x = some (p x)) → (∀ x ∈ xs, p x = true → G x = some (g x)) → v0.length + xs.length ≤ 1000000 → foldT (fun v x => ((P x).bind fun b => if b = true then ((G x).bind fun y => (appT v y).bind fun z => some z) else some v).bind fun w => some w) xs v0 = some (v0 ++ (xs.filter p).map g)
  | [], v0, _, _, _ => by rw [foldT_nil, List.filter_nil, List.map_nil, List.append_nil]
  | x :: xs, v0, h1, h2, l => by
    rw [List.length_cons] at l
    rw [foldT_cons, h1 x List.mem_cons_self, Option.bind_some]
    cases q : p x with
    | true =>
      rw [if_pos rfl, h2 x List.mem_cons_self q, Option.bind_some, appT_ok (by omega), Option.bind_some, Option.bind_some, Option.bind_some, foldT_appIf (fun y hy => h1 y (List.mem_cons_of_mem _ hy)) (fun y hy => h2 y (List.mem_cons_of_mem _ hy)) (by rw [List.length_append, List.length_singleton]; omega), List.filter_cons_of_pos q, List.map_cons, List.append_assoc]; rfl
    | false =>
      rw [if_neg Bool.false_ne_true, Option.bind_some, Option.bind_some, foldT_appIf (fun y hy => h1 y (List.mem_cons_of_mem _ hy)) (fun y hy => h2 y (List.mem_cons_of_mem _ hy)) (by omega), List.filter_cons_of_neg (by rw [q]; exact Bool.false_ne_true)]
/-- .. the item itself -/
theorem foldT_appIf1 {P : α → Option Bool} {p : α → Bool} {xs v0 : List α} (h1 : ∀ x ∈ xs, P x = some (p x)) (l : v0.length + xs.length ≤ 1000000) : foldT (fun v x => ((P x).bind fun b => if b = true then ((appT v x).bind fun z => some z) else some v).bind fun w => some w) xs v0 = some (v0 ++ xs.filter p) := by
  have := foldT_appIf (P := P) (G := fun x => some x) (p := p) (g := fun x => x) h1 (fun _ _ _ => rfl) l
  rw [List.map_id'] at this
  exact this
/-! ### items -/
theorem atI_ok {xs : List α} {i : Int} (h0 : 0 ≤ i) (h1 : i < xs.length) : ∃ x, atI xs i = some x ∧ x ∈ xs ∧ xs[i.toNat]? = some x := by
  have e := atI_some h0 h1
  have l : i.toNat < xs.length := by omega
  rw [List.getElem?_eq_getElem l] at e
  exact ⟨_, e, List.getElem_mem l, List.getElem?_eq_getElem l⟩
theorem enumT_get (xs : List α) (i : Nat) : (enumT xs)[i]? = (xs[i]?).map fun x => ((i : Int), x) := by unfold enumT; rw [List.getElem?_mapIdx]
theorem mem_enumT {xs : List α} {p : Int × α} (h : p ∈ enumT xs) : ∃ i : Nat, p.1 = (i : Int) ∧ xs[i]? = some p.2 := by
  obtain ⟨i, hi⟩ := List.getElem?_of_mem h
  rw [enumT_get] at hi
  cases q : xs[i]? with
  | none => rw [q] at hi; cases hi
  | some x => rw [q] at hi; cases hi; exact ⟨i, rfl, q⟩
theorem enumT_len (xs : List α) : (enumT xs).length = xs.length := by unfold enumT; simp
/-- a comprehension over enumerate as one over the range -/
theorem enumT_eq (xs : List α) : enumT xs = (List.range xs.length).filterMap fun (i : Nat) => (xs[i]?).map fun x => ((i : Int), x) := by
  have : enumT xs = (List.range xs.length).pmap (fun (i : Nat) (h : i < xs.length) => ((i : Int), xs[i]'h)) (fun i hi => List.mem_range.mp hi) := by
    apply List.ext_getElem?
    intro i
    rw [enumT_get]
    by_cases h : i < xs.length
    · simp [h]
    · simp [h]
  rw [this]
  have key : ∀ (l : List Nat) (hl : ∀ i ∈ l, i < xs.length), l.pmap (fun (i : Nat) (h : i < xs.length) => ((i : Int), xs[i]'h)) hl = l.filterMap fun (i : Nat) => (xs[i]?).map fun x => ((i : Int), x) := by
    intro l
    induction l with
    | nil => intro _; rfl
    | cons a l ih =>
      intro hl
      have ha := hl a List.mem_cons_self
      simp [List.getElem?_eq_getElem ha, ih fun i hi => hl i (List.mem_cons_of_mem _ hi)]
  exact key _ _
end
/-! ### signs -/
theorem sg1_inj {a b : Nat} : sg1 a = sg1 b ↔ a = b := ⟨fun h => by
  have := congrArg (fun s : Str => s.cps.toList) h
  simpa [sg1] using this, fun h => by rw [h]⟩
@[simp] theorem sg1_cps (a : Nat) : (sg1 a).cps.toList = [a] := rfl
@[simp] theorem sg1_len (a : Nat) : (sg1 a).length = 1 := rfl
theorem str_ext {a b : Str} (h : a.cps.toList = b.cps.toList) : a = b := by
  obtain ⟨x⟩ := a; obtain ⟨y⟩ := b
  congr 1
  exact Array.ext' h
@[simp] theorem cps_append (a b : Str) : (a ++ b).cps.toList = a.cps.toList ++ b.cps.toList := by
  show (a.cps ++ b.cps).toList = _
  simp
@[simp] theorem cps_cut (s : Str) (lo hi : Option Int) : (cutS' s lo hi).cps.toList = cutD s.cps.toList lo hi := rfl
theorem sgs_len (s : Str) : (sgs s).length = s.length := by unfold sgs; rw [List.length_map, str_length]
theorem sgs_get (s : Str) (i : Nat) : (sgs s)[i]? = (s.cps.toList[i]?).map sg1 := by unfold sgs; rw [List.getElem?_map]
theorem mem_sgs {s x : Str} (h : x ∈ sgs s) : ∃ c ∈ s.cps.toList, x = sg1 c := by
  obtain ⟨c, hc, e⟩ := List.mem_map.mp h
  exact ⟨c, hc, e.symm⟩
theorem atS_ok {s : Str} {i : Int} (h0 : 0 ≤ i) (h1 : i < s.length) : ∃ c, atS s i = some (sg1 c) ∧ c ∈ s.cps.toList ∧ s.cps.toList[i.toNat]? = some c := by
  obtain ⟨c, e, hm, hg⟩ := atI_ok (xs := s.cps.toList) h0 (by rw [← str_length]; exact h1)
  exact ⟨c, by unfold atS; rw [e]; rfl, hm, hg⟩
theorem atS_nat {s : Str} {i c : Nat} (h : s.cps.toList[i]? = some c) : atS s (i : Int) = some (sg1 c) := by
  unfold atS; rw [atI_nat h]; rfl
theorem strIn_sg (c : Nat) (x : Str) : strIn (sg1 c) x = decide (c ∈ x.cps.toList) := strIn_one c x
theorem sg1_eq (c : Nat) (s : Str) : decide (sg1 c = s) = decide (s.cps.toList = [c]) := by
  by_cases h : s.cps.toList = [c]
  · rw [decide_eq_true h, decide_eq_true]; exact str_ext (by rw [h]; rfl)
  · rw [decide_eq_false h, decide_eq_false]; intro z; exact h (by rw [← z]; rfl)
/-! letters -/
def isLo (c : Nat) : Prop := 97 ≤ c ∧ c < 123
def isUp (c : Nat) : Prop := 65 ≤ c ∧ c < 91
instance (c : Nat) : Decidable (isLo c) := by unfold isLo; infer_instance
instance (c : Nat) : Decidable (isUp c) := by unfold isUp; infer_instance
theorem upp_all : ((List.range' 97 26).all fun c => decide (uppT (sg1 c) = some (sg1 (c - 32)))) = true := by decide +kernel
theorem low_all : ((List.range' 97 26).all fun c => decide (lowT (sg1 c) = some (sg1 c))) = true := by decide +kernel
theorem low_cap : ((List.range' 65 26).all fun c => decide (lowT (sg1 c) = some (sg1 (c + 32)))) = true := by decide +kernel
theorem upp_lo {c : Nat} (h : isLo c) : uppT (sg1 c) = some (sg1 (c - 32)) := by
  have := List.all_eq_true.mp upp_all c (by rw [List.mem_range'_1]; exact ⟨h.1, by have := h.2; omega⟩)
  simpa using this
theorem low_lo {c : Nat} (h : isLo c) : lowT (sg1 c) = some (sg1 c) := by
  have := List.all_eq_true.mp low_all c (by rw [List.mem_range'_1]; exact ⟨h.1, by have := h.2; omega⟩)
  simpa using this
theorem low_up {c : Nat} (h : isUp c) : lowT (sg1 c) = some (sg1 (c + 32)) := by
  have := List.all_eq_true.mp low_cap c (by rw [List.mem_range'_1]; exact ⟨h.1, by have := h.2; omega⟩)
  simpa using this
theorem abcL : ("abcdefghijklmnopqrstuvwxyz" : Str).cps.toList = List.range' 97 26 := by decide +kernel
theorem abc_len : ("abcdefghijklmnopqrstuvwxyz" : Str).length = 26 := by decide +kernel
theorem mem_abc {c : Nat} : c ∈ ("abcdefghijklmnopqrstuvwxyz" : Str).cps.toList ↔ isLo c := by
  rw [abcL, List.mem_range'_1]; unfold isLo; omega
theorem abc_at (i : Int) : ∃ c, atS "abcdefghijklmnopqrstuvwxyz" (i % 26) = some (sg1 c) ∧ isLo c ∧ (c : Int) = 97 + i % 26 := by
  have h0 : 0 ≤ i % 26 := Int.emod_nonneg _ (by decide)
  have h1 : i % 26 < 26 := Int.emod_lt_of_pos _ (by decide)
  obtain ⟨c, e, _, hg⟩ := atS_ok (s := "abcdefghijklmnopqrstuvwxyz") h0 (by rw [abc_len]; omega)
  rw [abcL, List.getElem?_range' (by omega)] at hg
  have := Option.some.inj hg
  refine ⟨c, e, ?_, by omega⟩
  unfold isLo; omega
/-! ### join -/
theorem joinT_ok {ys : List Str} (h : (ys.map (·.length)).sum ≤ 1000000) : ∃ z, joinT "" ys = some z ∧ z.cps.toList = (ys.map (·.cps.toList)).flatten := by
  refine ⟨_, if_pos ⟨?_, le_line (Nat.le_trans (join_len "" ys) ?_)⟩, join_empty ys⟩
  · show _ + ys.length * 0 ≤ _; omega
  · show _ + ys.length * 0 ≤ _; omega
theorem joinT_sg {cs : List Nat} (h : cs.length ≤ 1000000) : ∃ z, joinT "" (cs.map sg1) = some z ∧ z.cps.toList = cs := by
  have e1 : ((cs.map sg1).map (·.length)) = List.replicate cs.length 1 := by
    rw [List.map_map]
    induction cs with
    | nil => rfl
    | cons c cs ih => rw [List.map_cons, List.length_cons, List.replicate_succ, ih (by rw [List.length_cons] at h; omega)]; rfl
  obtain ⟨z, e, hz⟩ := joinT_ok (ys := cs.map sg1) (by rw [e1]; simp; exact h)
  refine ⟨z, e, ?_⟩
  rw [hz, List.map_map]
  clear hz e e1 h
  induction cs with
  | nil => rfl
  | cons c cs ih => rw [List.map_cons, List.flatten_cons, ih]; rfl
/-! ### of data -/
theorem isiD_of {d : D} {a n : String} {b : Bool} (h1 : tyName d = some a) (h2 : kitB a n = some b ∧ isiB a n = b) : isiD d n = some b := by
  unfold isiD; rw [isiK h1 h2]; rfl
@[simp] theorem isiD_int_int (i : Int) : isiD (.int i) "int" = some true := isiD_of (a := "int") rfl (by decide +kernel)
@[simp] theorem isiD_int_bool (i : Int) : isiD (.int i) "bool" = some false := isiD_of (a := "int") rfl (by decide +kernel)
@[simp] theorem isiD_bl_int (i : Bool) : isiD (.bl i) "int" = some true := isiD_of (a := "bool") rfl (by decide +kernel)
@[simp] theorem isiD_bl_bool (i : Bool) : isiD (.bl i) "bool" = some true := isiD_of (a := "bool") rfl (by decide +kernel)
@[simp] theorem isiD_str_int (i : Str) : isiD (.str i) "int" = some false := isiD_of (a := "str") rfl (by decide +kernel)
@[simp] theorem isiD_str_str (i : Str) : isiD (.str i) "str" = some true := isiD_of (a := "str") rfl (by decide +kernel)
@[simp] theorem isiD_non_int : isiD .non "int" = some false := isiD_of (a := "NoneType") rfl (by decide +kernel)
@[simp] theorem isiD_non_str : isiD .non "str" = some false := isiD_of (a := "NoneType") rfl (by decide +kernel)
@[simp] theorem isiD_lst_int (xs : List D) : isiD (.lst xs) "int" = some false := isiD_of (a := "list") rfl (by decide +kernel)
@[simp] theorem isiD_lst_str (xs : List D) : isiD (.lst xs) "str" = some false := isiD_of (a := "list") rfl (by decide +kernel)
@[simp] theorem isiD_lst_list (xs : List D) : isiD (.lst xs) "list" = some true := isiD_of (a := "list") rfl (by decide +kernel)
@[simp] theorem isiD_lst_tuple (xs : List D) : isiD (.lst xs) "tuple" = some false := isiD_of (a := "list") rfl (by decide +kernel)
@[simp] theorem isiD_tup_tuple (xs : List D) : isiD (.tup xs) "tuple" = some true := isiD_of (a := "tuple") rfl (by decide +kernel)
@[simp] theorem isiD_tup_list (xs : List D) : isiD (.tup xs) "list" = some false := isiD_of (a := "tuple") rfl (by decide +kernel)
@[simp] theorem isiD_tup_int (xs : List D) : isiD (.tup xs) "int" = some false := isiD_of (a := "tuple") rfl (by decide +kernel)
@[simp] theorem isiD_tup_str (xs : List D) : isiD (.tup xs) "str" = some false := isiD_of (a := "tuple") rfl (by decide +kernel)
@[simp] theorem isiD_eL_list {α : Type} {e : α → D} (xs : List α) : isiD (eL e xs) "list" = some true := isiD_lst_list _
theorem enumT_snoc {α : Type} (xs : List α) (x : α) : enumT (xs ++ [x]) = enumT xs ++ [((xs.length : Int), x)] := by unfold enumT; rw [List.mapIdx_append]; simp
theorem rng_succ (n : Nat) : rng ((n : Int) + 1) = rng n ++ [(n : Int)] := by
  unfold rng
  have : ((n : Int) + 1).toNat = n + 1 := by omega
  rw [this, List.range_succ, List.map_append]; simp
theorem snoc_ind' {α : Type} {P : List α → Prop} (h0 : P []) (h1 : ∀ xs x, P xs → P (xs ++ [x])) (xs : List α) : P xs := by
  have : ∀ n, ∀ ys : List α, ys.length = n → P ys := by
    intro n
    induction n with
    | zero => intro ys h; rw [List.length_eq_zero_iff.mp h]; exact h0
    | succ n ih =>
      intro ys h
      have ne : ys ≠ [] := fun e => by rw [e] at h; cases h
      have e := List.dropLast_concat_getLast ne
      rw [← e]
      exact h1 _ _ (ih _ (by rw [List.length_dropLast, h]; rfl))
  exact this _ xs rfl
/-- the places of the good ones -/
theorem enum_filter {α : Type} (q : α → Bool) (xs : List α) : ((enumT xs).filter fun p => q p.2).map (·.1) = (rng xs.length).filter fun i => (xs[i.toNat]?).any q := by
  refine snoc_ind' (P := fun xs : List α => ((enumT xs).filter fun p => q p.2).map (·.1) = (rng xs.length).filter fun i => (xs[i.toNat]?).any q) rfl (fun xs x ih => ?_) xs
  rw [enumT_snoc, List.filter_append, List.map_append, ih, List.length_append, List.length_singleton]
  have e : ((xs.length + 1 : Nat) : Int) = (xs.length : Int) + 1 := by omega
  rw [e, rng_succ, List.filter_append]
  congr 1
  · refine List.filter_congr fun i hi => ?_
    have := mem_rng.mp hi
    rw [List.getElem?_append_left (by omega)]
  · have g : (xs ++ [x])[((xs.length : Int)).toNat]? = some x := by simp
    cases c : q x <;> simp [c, g]
theorem bindC_for {α β σ ρ : Type} {B : σ → α → Option (Ctl σ ρ)} (P : σ → Prop) {xs : List α} {v0 : σ} {K : σ → Option β} {R : ρ → β} {r : β} (h0 : P v0) (hb : ∀ x v, x ∈ xs → P v → ∃ v', B v x = some (.nx v') ∧ P v') (hk : ∀ v, P v → K v = some r) : bindC (forT B xs v0) K R = some r := by
  obtain ⟨v, e, h⟩ := forT_keep P h0 hb
  rw [e, bindC_nx]; exact hk v h
theorem bind_fold {α β σ : Type} {B : σ → α → Option σ} (P : List α → σ → Prop) {xs : List α} {v0 : σ} {K : σ → Option β} {r : β} (h0 : P [] v0) (hb : ∀ pre x v, x ∈ xs → P pre v → ∃ v', B v x = some v' ∧ P (pre ++ [x]) v') (hk : ∀ v, P xs v → K v = some r) : (foldT B xs v0).bind K = some r := by
  obtain ⟨v, e, h⟩ := foldT_pre P h0 hb
  rw [e, Option.bind_some]; exact hk v h
theorem length_sub {α : Type} [DecidableEq α] : ∀ {l m : List α}, l.Nodup → (∀ x ∈ l, x ∈ m) → l.length ≤ m.length
  | [], _, _, _ => Nat.zero_le _
  | a :: l, m, nd, h => by
    have ha := h a List.mem_cons_self
    rw [List.nodup_cons] at nd
    have := length_sub (m := m.erase a) nd.2 fun x hx => (List.mem_erase_of_ne (fun e => nd.1 (by rw [← e]; exact hx))).mpr (h x (List.mem_cons_of_mem _ hx))
    have l1 := List.length_erase_of_mem ha
    have : 0 < m.length := List.length_pos_of_mem ha
    rw [List.length_cons]
    omega
theorem cutD_nat_to {α : Type} (xs : List α) {k : Int} (h : 0 ≤ k) : cutD xs none (some k) = xs.take k.toNat := by
  have := cutD_to xs k.toNat
  rwa [Int.toNat_of_nonneg h] at this
theorem cutD_nat_from {α : Type} (xs : List α) {k : Int} (h : 0 ≤ k) : cutD xs (some k) none = xs.drop k.toNat := by
  have := cutD_from xs k.toNat
  rwa [Int.toNat_of_nonneg h] at this
end Dl
/-! L: count; exceptions. -/
namespace Dl
open PySem L2
def cntT {α : Type} [DecidableEq α] (xs : List α) (x : α) : Int := ((xs.countP fun y => decide (y = x) : Nat) : Int)
theorem opCnt_l {α : Type} [DecidableEq α] {e : α → D} {n : Nat} (h : Enc n e) (hn : n ≤ 59 := by decide) (xs : List α) (x : α) : opCnt (eL e xs) (e x) = some (.int (cntT xs x)) := by
  show (if cmpOk (.lst (xs.map e)) (e x) then some (D.int (((xs.map e).countP fun z => D.eqv z (e x) : Nat) : Int)) else none) = _
  rw [if_pos (cmpOk_of (n := n + 1) (fit_lst fun d hd => by obtain ⟨a, _, rfl⟩ := List.mem_map.mp hd; exact h.fit a) ⟨(h.fit x).1, Nat.le_succ_of_le (h.fit x).2⟩ (by omega)), List.countP_map]
  unfold cntT
  congr 3
  refine List.countP_congr fun a _ => ?_
  show (D.eqv (e a) (e x) = true) ↔ _
  rw [h.inj]
theorem cntM {α : Type} [DecidableEq α] {e : α → D} {n : Nat} (h : Enc n e) {fo fe : Ev} {δ : Env} {X : Option (List α)} {Y : Option α} (a : EvM fo δ (eL e) X) (b : EvM fe δ e Y) (hn : n ≤ 59 := by decide) : EvM (vCnt fo fe) δ D.int (X.bind fun xs => Y.bind fun y => some (cntT xs y)) := fun r q => by
  obtain ⟨xs, q1, q2⟩ := bind_eq q
  obtain ⟨y, q3, q4⟩ := bind_eq q2
  cases q4
  have e0 : vCnt fo fe δ = (fo δ).bind fun l => (fe δ).bind fun y => opCnt l y := rfl
  rw [e0, a xs q1, Option.bind_some, b y q3, Option.bind_some, opCnt_l h hn]
theorem cntP {α : Type} [DecidableEq α] {e : α → D} {n : Nat} (h : Enc n e) {fo fe : Ev} {δ : Env} {xs : List α} {y : α} (a : EvP fo δ (eL e) xs) (b : EvP fe δ e y) (hn : n ≤ 59 := by decide) : EvP (vCnt fo fe) δ D.int (cntT xs y) := by
  have e0 : vCnt fo fe δ = (fo δ).bind fun l => (fe δ).bind fun y => opCnt l y := rfl
  show vCnt fo fe δ = _
  rw [e0, a, Option.bind_some, b, Option.bind_some, opCnt_l h hn]
end Dl
/-! L: what may be raised. -/
namespace Dl
open PySem L2
inductive Rt (ρ : Type) where
  | ok (r : ρ) | ex (c : Str)
def gR {ρ : Type} (e : ρ → D) : Rt ρ → Res
  | .ok r => .ok (e r)
  | .ex c => .ex c []
def gX {ρ : Type} (e : ρ → D) : Rt ρ → Out
  | .ok r => .rt (e r)
  | .ex c => .ex c []
def outG {σ ρ : Type} (E : σ → Env) (G : ρ → Out) : Ctl σ ρ → Out
  | .nx v => .nx (E v)
  | .rt r => G r
/-- goes on with a value, or an exception is let on -/
def bindX {α β : Type} (T : Option (Rt α)) (K : α → Option β) (R : Str → β) : Option β := T.bind fun r => match r with | .ok x => K x | .ex c => some (R c)
@[simp] theorem bindX_none {α β : Type} (K : α → Option β) (R : Str → β) : bindX none K R = none := rfl
@[simp] theorem bindX_ok {α β : Type} (x : α) (K : α → Option β) (R : Str → β) : bindX (some (.ok x)) K R = K x := rfl
@[simp] theorem bindX_ex {α β : Type} (c : Str) (K : α → Option β) (R : Str → β) : bindX (some (.ex c)) K R = some (R c) := rfl
def okT {α : Type} : Rt α → Option α
  | .ok x => some x
  | .ex _ => none
/-- one that never goes on -/
def Stops {ρ : Type} (G : ρ → Out) : Prop := ∀ r δ, G r ≠ .nx δ
theorem gX_stops {ρ : Type} (e : ρ → D) : Stops (gX e) := fun r δ h => by cases r <;> cases h
section
variable {α β γ ρ σ : Type} {f : Ev} {x : α} {T : Option α} {δ : Env} {e : α → D} {s s' : Sv} {g : β → Out} {fx : Xv} {TX : Option (Rt α)} {G : ρ → Out}
def XvM (f : Xv) (δ : Env) (e : α → D) (T : Option (Rt α)) : Prop := ∀ r, T = some r → f δ = some (gR e r)
/-- where it is known to raise nothing -/
theorem XvM.ok (h : XvM fx δ e TX) : EvM (okV fx) δ e (TX.bind okT) := fun r q => by
  obtain ⟨y, q1, q2⟩ := bind_eq q
  cases y with
  | ok z =>
    cases q2
    show (fx δ).bind _ = _
    rw [h _ q1]; rfl
  | ex c => cases q2
/-- a call -/
def ArX (f : Env → Option (List D)) (δ : Env) (k : List D → Option Res) (e : α → D) (T : Option (Rt α)) : Prop := ∀ x, T = some x → (f δ).bind k = some (gR e x)
theorem arXnil {k : List D → Option Res} (h : ∀ r, TX = some r → k [] = some (gR e r)) : ArX aNil δ k e TX := fun r q => h r q
theorem arXconsP {α' : Type} {e1 : α' → D} {x1 : α'} {f1 : Ev} {fs : Env → Option (List D)} {k : List D → Option Res} (a : EvP f1 δ e1 x1) (h : ArX fs δ (fun ds => k (e1 x1 :: ds)) e TX) : ArX (aCons f1 fs) δ k e TX := fun r q => by
  have h' := h r q
  unfold EvP at a
  rw [aCons_def, a, Option.bind_some, ← h']
  cases fs δ <;> rfl
theorem arXconsM {α' : Type} {e1 : α' → D} {T1 : Option α'} {f1 : Ev} {fs : Env → Option (List D)} {k : List D → Option Res} {TK : α' → Option (Rt α)} (a : EvM f1 δ e1 T1) (h : ∀ z, ArX fs δ (fun ds => k (e1 z :: ds)) e (TK z)) : ArX (aCons f1 fs) δ k e (T1.bind TK) := fun r q => by
  obtain ⟨z, q1, q2⟩ := bind_eq q
  exact arXconsP (show EvP f1 δ e1 z from a z q1) (h z) r q2
theorem callX {k : List D → Option Res} {fs : Env → Option (List D)} (h : ArX fs δ k e TX) : XvM (xC1 k fs) δ e TX := fun r q => h r q
/-! statements of a def that may raise -/
theorem stRetX (h : EvP f δ e x) : St (sRet f) δ (gX e) (some (.ok x)) := fun r q => by
  cases q
  unfold EvP at h
  rw [sRet_def, h]; rfl
theorem stRetXM (h : EvM f δ e T) : St (sRet f) δ (gX e) (T.bind fun x => some (.ok x)) := fun r q => by
  obtain ⟨y, q1, q2⟩ := bind_eq q
  cases q2
  rw [sRet_def, h y q1]; rfl
theorem stRaiseX {c : Str} : St (sRaise c) δ (gX e) (some (.ex c)) := fun r q => by cases q; rfl
theorem stUpG {E : σ → Env} {T : Option ρ} (h : St s δ G T) : St s δ (outG E G) (T.bind fun r => some (.rt r)) := fun r q => by
  obtain ⟨y, q1, q2⟩ := bind_eq q
  cases q2
  exact h y q1
theorem stRetNX : St sRetN δ (gX eU) (some (.ok ())) := fun r q => by cases q; rfl
theorem stNextG {E : σ → Env} (v : σ) (hE : δ = E v := by rfl) : St sNext δ (outG E G) (some (.nx v)) := fun r q => by cases q; rw [hE]; rfl
theorem nnX {f : Xv} (h : NoNx s) : NoNx (sX f s) := fun δ δ' q => by
  obtain ⟨r, e1, e2⟩ := bind_eq q
  cases r with
  | ok d => exact h _ _ e2
  | ex c fs => cases e2
theorem nnRaise {c : Str} : NoNx (sRaise c) := fun δ δ' h => by cases h
/-- return f(..), f may raise -/
theorem stRetFX (h : XvM fx δ e TX) : St (sX fx (sRet (okV fx))) δ (gX e) TX := fun r q => by
  have := h r q
  show (fx δ).bind _ = _
  rw [this, Option.bind_some]
  cases r with
  | ok y =>
    show sRet (okV fx) δ = _
    have : okV fx δ = some (e y) := by show (fx δ).bind _ = _; rw [this]; rfl
    rw [sRet_def, this]; rfl
  | ex c => rfl
/-- x = f(..) -/
theorem stSetFX {i : Nat} {K : α → Option β} {R : Str → β} (h : XvM fx δ e TX) (k : ∀ y, St s' (δ.set i (some (e y))) g (K y)) (hR : ∀ c, g (R c) = .ex c [] := by intro _; rfl) : St (sSeq (sX fx (sSet i (okV fx))) s') δ g (bindX TX K R) := fun r q => by
  obtain ⟨z, q1, q2⟩ := bind_eq q
  have h1 := h z q1
  rw [sSeq_def]
  cases z with
  | ok y =>
    have e1 : sX fx (sSet i (okV fx)) δ = some (.nx (δ.set i (some (e y)))) := by
      show (fx δ).bind _ = _
      rw [h1, Option.bind_some]
      show (okV fx δ).map _ = _
      have : okV fx δ = some (e y) := by show (fx δ).bind _ = _; rw [h1]; rfl
      rw [this]; rfl
    rw [e1]
    exact k y r q2
  | ex c =>
    have e1 : sX fx (sSet i (okV fx)) δ = some (.ex c []) := by
      show (fx δ).bind _ = _
      rw [h1]; rfl
    rw [e1]
    cases q2
    rw [hR]; rfl
/-- f(..) alone -/
theorem stExprFX {K : α → Option β} {R : Str → β} (h : XvM fx δ e TX) (k : ∀ y, St s' δ g (K y)) (hR : ∀ c, g (R c) = .ex c [] := by intro _; rfl) : St (sSeq (sX fx (sExpr (okV fx))) s') δ g (bindX TX K R) := fun r q => by
  obtain ⟨z, q1, q2⟩ := bind_eq q
  have h1 := h z q1
  rw [sSeq_def]
  cases z with
  | ok y =>
    have e1 : sX fx (sExpr (okV fx)) δ = some (.nx δ) := by
      show (fx δ).bind _ = _
      rw [h1, Option.bind_some]
      show (okV fx δ).map _ = _
      have : okV fx δ = some (e y) := by show (fx δ).bind _ = _; rw [h1]; rfl
      rw [this]; rfl
    rw [e1]
    exact k y r q2
  | ex c =>
    have e1 : sX fx (sExpr (okV fx)) δ = some (.ex c []) := by
      show (fx δ).bind _ = _
      rw [h1]; rfl
    rw [e1]
    cases q2
    rw [hR]; rfl
theorem stSeqG {E : σ → Env} {T : Option (Ctl σ ρ)} {K : σ → Option β} {Rr : ρ → β} (hG : Stops G) (a : St s δ (outG E G) T) (h : ∀ v, St s' (E v) g (K v)) (hR : ∀ r, g (Rr r) = G r := by intro _; rfl) : St (sSeq s s') δ g (bindC T K Rr) := fun r q => by
  obtain ⟨c, q1, q2⟩ := bind_eq q
  cases c with
  | nx v =>
    rw [sSeq_def, a _ q1]
    exact h v r q2
  | rt y =>
    cases q2
    rw [sSeq_def, a _ q1, hR]
    show (some (G y)).bind _ = _
    rw [Option.bind_some]
    cases z : G y with
    | nx δ' => exact (hG _ _ z).elim
    | rt d => rfl
    | ex c fs => rfl
variable {it : Env → Option (List D)} {set : Hv} {body : Sv} {xs : List α} {X : Option (List α)}
theorem forG_ok (hG : Stops G) {E : σ → Env} {E' : σ → α → Env} {Bd : σ → α → Option (Ctl σ ρ)} (hs : ∀ v x, set (e x) (E v) = some (E' v x)) (hb : ∀ v x, St body (E' v x) (outG E G) (Bd v x)) : ∀ (xs : List α) (v : σ) (r : Ctl σ ρ), forT Bd xs v = some r → forD set body (xs.map e) (E v) = some (outG E G r)
  | [], v, r, h => by cases h; rfl
  | x :: xs, v, r, h => by
    obtain ⟨c, q1, q2⟩ := bind_eq h
    show ((set (e x) (E v)).bind fun δ1 => (body δ1).bind fun o => match o with | .nx δ2 => forD set body (xs.map e) δ2 | o => some o) = _
    rw [hs, Option.bind_some, hb v x c q1, Option.bind_some]
    cases c with
    | nx v' => exact forG_ok hG hs hb xs v' r q2
    | rt y =>
      cases q2
      show (match G y with | .nx δ2 => forD set body (xs.map e) δ2 | o => some o) = some (G y)
      cases z : G y with
      | nx δ' => exact (hG _ _ z).elim
      | rt d => rfl
      | ex c fs => rfl
theorem stForG (hG : Stops G) {E : σ → Env} {E' : σ → α → Env} {Bd : σ → α → Option (Ctl σ ρ)} (v0 : σ) (hi : ItP it δ e xs) (h0 : E v0 = δ) (hs : ∀ v x, set (e x) (E v) = some (E' v x)) (hb : ∀ v x, St body (E' v x) (outG E G) (Bd v x)) : St (sFor it set body) δ (outG E G) (forT Bd xs v0) := fun r q => by
  unfold ItP at hi
  rw [sFor_def, hi, Option.bind_some, ← h0]
  exact forG_ok hG hs hb xs v0 r q
theorem stForGM (hG : Stops G) {E : σ → Env} {E' : σ → α → Env} {Bd : σ → α → Option (Ctl σ ρ)} (v0 : σ) (hi : ItM it δ e X) (h0 : E v0 = δ) (hs : ∀ v x, set (e x) (E v) = some (E' v x)) (hb : ∀ v x, St body (E' v x) (outG E G) (Bd v x)) : St (sFor it set body) δ (outG E G) (X.bind fun xs => forT Bd xs v0) := fun r q => by
  obtain ⟨xs, q1, q2⟩ := bind_eq q
  exact stForG hG v0 (hi xs q1) h0 hs hb r q2
/-! try -/
def tryC {σ ρ : Type} (T : Option (Ctl σ (Rt ρ))) (S : Str → Option (Ctl σ ρ)) : Option (Ctl σ ρ) := T.bind fun c => match c with
  | .nx v => some (.nx v)
  | .rt (.ok r) => some (.rt r)
  | .rt (.ex c) => S c
theorem stTry {er : ρ → D} {i : Nat} {ct : Str → Option Bool} {ws : List Nat} {sb : Sv} {ss : Addr → Str → Sv} {E : σ → Env} {E' : Addr → Str → σ → Env} {TB : Option (Ctl σ (Rt ρ))} {S : Str → Option (Ctl σ ρ)} (hb : St sb δ (outG E (gX er)) TB)
    (hs : ∀ a c, St (ss a c) ((wipeE δ ws).set i (some (.exc a c))) (outF (E' a c) er) (S c)) (hE : ∀ a c v, (E' a c v).set i none = E v) : St (sTryAs i ct ws sb ss) δ (outF E er) (tryC TB fun c => if ct c = some true then S c else none) := fun r q => by
  obtain ⟨cc, q1, q2⟩ := bind_eq q
  have h1 := hb cc q1
  show (sb δ).bind _ = _
  rw [h1, Option.bind_some]
  cases cc with
  | nx v => cases q2; rfl
  | rt y =>
    cases y with
    | ok y => cases q2; rfl
    | ex c =>
      have q2 : (if ct c = some true then S c else none) = some r := q2
      split at q2
      · rename_i hc
        show (if ([] : List (Str × D)).isEmpty = true then (ct c).bind fun b => if b = true then (allA fun a => (ss a c ((wipeE δ ws).set i (some (.exc a c)))).bind (goneO i)) else some (.ex c []) else none) = _
        rw [if_pos (show ([] : List (Str × D)).isEmpty = true from rfl), hc, Option.bind_some, if_pos rfl]
        cases r with
        | nx v =>
          exact allA_of fun a => by
            rw [hs a c _ q2, Option.bind_some]
            show some (Out.nx ((E' a c v).set i none)) = _
            rw [hE]; rfl
        | rt y =>
          exact allA_of fun a => by
            rw [hs a c _ q2, Option.bind_some]; rfl
      · cases q2
end
end Dl
namespace Dl
open PySem L2
abbrev eExc (a : Addr) (c : Str) : D := .exc a c
section
variable {α β γ ρ σ : Type} {f : Ev} {x : α} {T : Option α} {δ : Env} {e : α → D} {s s' : Sv} {g : β → Out}
theorem stRetG {E : σ → Env} (h : EvP f δ e x) : St (sRet f) δ (outG E (gX e)) (some (.rt (.ok x))) := fun r q => by
  cases q
  unfold EvP at h
  rw [sRet_def, h]; rfl
theorem stRetGM {E : σ → Env} (h : EvM f δ e T) : St (sRet f) δ (outG E (gX e)) (T.bind fun x => some (.rt (.ok x))) := fun r q => by
  obtain ⟨y, q1, q2⟩ := bind_eq q
  cases q2
  rw [sRet_def, h y q1]; rfl
theorem stRaiseG {E : σ → Env} {c : Str} : St (sRaise c) δ (outG E (gX e)) (some (.rt (.ex c))) := fun r q => by cases q; rfl
theorem stRetFG {E : σ → Env} {fx : Xv} {TX : Option (Rt α)} (h : XvM fx δ e TX) : St (sX fx (sRet (okV fx))) δ (outG E (gX e)) (TX.bind fun r => some (.rt r)) := stUpG (stRetFX h)
theorem defX_of {n np : Nat} {rm : Mode} {s : Sv} {ds : List D} {TX : Option (Rt α)} (hl : ds.length = np) (h : St s (ds.map some ++ List.replicate (n - np) none) (gX e) TX) : ∀ r, TX = some r → denX n np rm s ds = some (gR e r) := fun r q => by
  unfold denX
  rw [if_pos hl, h r q]
  cases r <;> rfl
theorem isE_cls (a : Addr) (c : Str) {n : Str} (h : n ∈ excN) : opIsE a c [eExc a c, .cls n] = some (D.bl (subX c n)) := if_pos ⟨rfl, rfl, h⟩
theorem isE_val (a : Addr) (c : Str) : opIsE a c [eExc a c, .ty "ValueError"] = some (D.bl true) := if_pos ⟨rfl, rfl, rfl⟩
end
def ctOf (Cs : List Str) (N : Str) : Str → Option Bool := fun c => if c ∈ Cs then some (subX c N) else none
theorem ctOf_mem {Cs : List Str} {N c : Str} {b : Bool} (h : ctOf Cs N c = some b) : c ∈ Cs := by
  unfold ctOf at h
  split at h
  · assumption
  · cases h
end Dl
namespace Dl
open PySem L2
/-- a def that ends without a value, or raises -/
def gXU (E : Env) : Rt Unit → Out
  | .ok _ => .nx E
  | .ex c => .ex c []
theorem stOffX {E : Env} : St sNext E (gXU E) (some (.ok ())) := fun r q => by cases q; rfl
theorem stRaiseXU {δ E : Env} {c : Str} : St (sRaise c) δ (gXU E) (some (.ex c)) := fun r q => by cases q; rfl
theorem defXU_of {n np : Nat} {s : Sv} {ds : List D} {E : Env} {TX : Option (Rt Unit)} (hl : ds.length = np) (h : St s (ds.map some ++ List.replicate (n - np) none) (gXU E) TX) : ∀ r, TX = some r → denX n np .sh s ds = some (gR eU r) := fun r q => by
  unfold denX
  rw [if_pos hl, h r q]
  cases r <;> rfl
theorem slots_of {wb wu wr : List Nat} {i : Nat} (h : (wb ++ (wu ++ [i])).all (fun j => wr.contains j) = true) : ∀ j, j ∈ wb ∨ j ∈ wu ∨ j = i → j ∈ wr := fun j hj => by
  have := List.all_eq_true.mp h j (by
    simp only [List.mem_append, List.mem_singleton]
    exact hj)
  simpa using this
def owI : List Mode → Nat → List Nat
  | [], _ => []
  | .ow :: M, i => i :: owI M (i + 1)
  | _ :: M, i => owI M (i + 1)
theorem owI_mem : ∀ (M : List Mode) (i j : Nat), md M j = .ow → (i + j) ∈ owI M i
  | [], i, j, h => by unfold md at h; rw [List.getD_nil] at h; cases h
  | m :: M, i, 0, h => by
    have : m = .ow := h
    subst this
    exact List.mem_cons_self
  | m :: M, i, j + 1, h => by
    have ih := owI_mem M (i + 1) j h
    have e : i + (j + 1) = i + 1 + j := by omega
    rw [e]
    cases m with
    | ow => exact List.mem_cons_of_mem _ ih
    | _ => exact ih
theorem own_of {M : List Mode} {ws : List Nat} (h : (owI M 0).all (fun j => ws.contains j) = true) : ∀ j, md M j = .ow → j ∈ ws := fun j hj => by
  have := List.all_eq_true.mp h j (by have := owI_mem M 0 j hj; rwa [Nat.zero_add] at this)
  simpa using this
end Dl
/-! dict(zip(keys, values)). -/
namespace Dl
open PySem L2 PyProof.Rows
def tDictZip (K : PySem.W.Frag) (ta : TA) : TE := fun σ H Q => ta σ H fun vs H1 => ∃ (a b : Addr) (xs ys : List V) (kvs : List (Key × V)), vs = [.ref a, .ref b] ∧ SqL K H1 a xs ∧ SqL K H1 b ys ∧ xs.zip ys = kvs.map (fun kv => (kV kv.1, kv.2)) ∧ ∀ p, H1 p = none → Q (.ref p) (upd H1 p (.dK (mergeK [] kvs)))
theorem kv_zip (P : Program) (w : World) : ∀ {xs ys : List V} {us ws : List Value} {kvs : List (Key × V)}, Vals xs us → Vals ys ws → xs.zip ys = kvs.map (fun kv => (kV kv.1, kv.2)) → ∃ prs : List (Key × Value), KV kvs prs ∧ prs.length = min us.length ws.length ∧ ∀ (i : Nat) (k v : Value), us[i]? = some k → ws[i]? = some v → ∃ j, prs[i]? = some (j, v) ∧ keyIs j k = true
  | [], ys, us, ws, kvs, r, r', e => by
    cases r
    rw [List.zip_nil_left] at e
    cases kvs with
    | nil => exact ⟨[], .nil, by simp, fun i k v h => by simp at h⟩
    | cons a l => cases e
  | x :: xs, [], us, ws, kvs, r, r', e => by
    cases r'
    rw [List.zip_nil_right] at e
    cases kvs with
    | nil => exact ⟨[], .nil, by simp, fun i k v h h' => by simp at h'⟩
    | cons a l => cases e
  | x :: xs, y :: ys, _, _, kvs, r, r', e => by
    cases r with
    | cons rx rr =>
      cases r' with
      | cons ry rr' =>
        cases kvs with
        | nil => cases e
        | cons kv l =>
          rw [List.zip_cons_cons, List.map_cons] at e
          have e1 := (List.cons.inj e).1
          have e2 := (List.cons.inj e).2
          obtain ⟨prs, h1, h2, h3⟩ := kv_zip P w rr rr' e2
          obtain ⟨k, v⟩ := kv
          have ek : x = kV k := congrArg Prod.fst e1
          have ev : y = v := congrArg Prod.snd e1
          subst ek ev
          rename_i u _ w' _
          refine ⟨(k, w') :: prs, .cons ⟨rfl, ry⟩ h1, by rw [List.length_cons, List.length_cons, List.length_cons, h2]; omega, fun i k' v' q q' => ?_⟩
          cases i with
          | zero =>
            cases q; cases q'
            exact ⟨k, rfl, kV_is (P := P) (w := w) rx⟩
          | succ i => exact h3 i k' v' q q'
theorem pe_dictZip {X : Cx} {e e2 : Expr} {ta : TA} {p p2 q pos : Pos} (hc : X.calm = true) (hg : Gl X "dict") (hm : X.mg "dict" = none) (hg2 : Gl X "zip") (hm2 : X.mg "zip" = none) (ha : PA X [e, e2] ta)
    (hs : starEach [e, e2] X.env = (false, eval e X.env) :: starEach [e2] X.env := by rfl) (hpl : (backTo q (starEach [e2] X.env)).any (·.1) = false := by rfl) :
    PE X (.Call (.Name "dict" p) [.Call (.Name "zip" p2) [e, e2] [] q] [] pos) (tDictZip X.K ta) := by
  refine ⟨fun pins s σ H Q I h => ?_⟩
  refine Call_ (ld_blt I hg hm boot_dict ?_)
  refine callWith_type1 (args_cons ?_ rfl) rfl rfl
  refine Call_ (ld_blt I hg2 hm2 boot_zip (callWith_type1 (thn (ha.run q pins s σ H _ I h) fun us s1 ⟨vs, H1, I1, r1, q1⟩ => ?_) hs hpl))
  obtain ⟨a, b, xs, ys, kvs, ex, hqx, hqy, hz0, q⟩ := q1
  subst ex
  cases r1 with
  | cons r rr =>
    cases rr with
    | cons r' rr =>
      cases rr
      cases r
      cases r'
      obtain ⟨its, rv, p1, l1⟩ := I1.list hqx
      obtain ⟨its2, rv2, p2, l2⟩ := I1.list hqy
      have la : a < s1.heap.objs.size := p1.lt
      have lb : b < s1.heap.objs.size := p2.lt
      obtain ⟨prs, rel, hl, hpr⟩ := kv_zip X.prog X.w rv rv2 hz0
      refine call_zip_2 p1.isList p2.isList fun h' hz hTI hTO h1 h2 hsz hk => ?_
      refine args_nil ?_
      have hsize : prs.length ≤ sizeLine := by
        rw [hl]; exact Nat.le_trans (Nat.min_le_left _ _) (by rw [← rv.length]; exact l1)
      refine PySem.call_dict_pairs (knd := mixKind X.prog X.w) (kvs := prs) (PairArg.zip _ _ _ _ _ a b (PySem.W.ktu_apart s1.heap.objs.size a b la lb) its.toArray its2.toArray) (I1.ok.hd hc) ⟨hz, hTI, ⟨_, _, hTO⟩, h1, h2, p1.isList.at fun o e => hk _ _ e, p2.isList.at fun o e => hk _ _ e⟩ ?_ ?_ fun h'' tk hd' hk' => ?_
      · refine ⟨by rw [hl, List.size_toArray, List.size_toArray], fun i key v ⟨e1, e2⟩ => ?_⟩
        obtain ⟨j, e3, e4⟩ := hpr i key v (by simpa using e1) (by simpa using e2)
        exact ⟨j, e3, e4⟩
      · rw [List.size_toArray, List.size_toArray, ← hl]; exact hsize
      · have hlen : (mergeK [] kvs).length ≤ sizeLine := by
          refine Nat.le_trans (length_mergeK kvs []) ?_
          rw [List.length_nil, Nat.zero_add, rel.length]
          exact hsize
        have hbig : s1.heap.objs.size ≤ h'.objs.size := by rw [hsz]; omega
        have hmm : (h'.objs.size == sysModules) = false := beq_eq_false_iff_ne.mpr (Nat.ne_of_gt (Nat.lt_of_lt_of_le I1.big hbig))
        have kk : ∀ c o, s1.heap.get? c = some o → h''.get? c = some o := fun c o e => hk' c o (fun hm => by
          have hlt := Heap.lt_size e
          simp only [List.mem_cons, List.not_mem_nil, or_false] at hm
          rcases hm with z | z | z | z
          · exact absurd (z ▸ hlt) (Nat.not_lt.mpr (Nat.le_add_right _ _))
          · exact absurd (z ▸ hlt) (Nat.not_lt.mpr (Nat.le_add_right _ _))
          · exact absurd (z ▸ hlt) (Nat.lt_irrefl _)
          · exact absurd (z ▸ hlt) (Nat.not_lt.mpr (Nat.le_add_right _ _))) (hk c o e)
        exact ⟨.ref h'.objs.size, upd H1 h'.objs.size (.dK (mergeK [] kvs)), I1.laid (t' := tk) kk hbig (show ObjOk X.prog X.w _ _ _ (.dK (mergeK [] kvs)) from ⟨hlen, hmm, merged [] prs, KV.merge rel .nil, hd'⟩), rfl, q _ (I1.hok.fresh hbig)⟩
def zipKD : List D → List D → Option (List (Key × D))
  | a :: as, b :: bs => (keyD a).bind fun k => (zipKD as bs).map ((k, b) :: ·)
  | _, _ => some []
def opDictZ : List D → Option D
  | [.lst as, .lst bs] => (zipKD as bs).map fun kvs => .dicK (mergeD [] kvs)
  | _ => none
theorem RepL.zipKD {K : PySem.W.Frag} {Γ : CM} {S : Hp} : ∀ {as bs : List D} {xs ys : List V} {kvs : List (Key × D)}, RepL K Γ S as xs → RepL K Γ S bs ys → zipKD as bs = some kvs → ∃ vs : List (Key × V), xs.zip ys = vs.map (fun kv => (kV kv.1, kv.2)) ∧ RepK K Γ S kvs vs
  | [], _, _, _, kvs, r, r', e => by
    cases (show _ = [] from r)
    obtain rfl : [] = kvs := Option.some.inj (show some [] = some kvs from e)
    exact ⟨[], by rw [List.zip_nil_left]; rfl, rfl⟩
  | a :: as, [], _, _, kvs, r, r', e => by
    cases (show _ = [] from r')
    obtain rfl : [] = kvs := Option.some.inj (show some [] = some kvs from e)
    exact ⟨[], by rw [List.zip_nil_right]; rfl, rfl⟩
  | a :: as, b :: bs, _, _, _, ⟨x, xs, e1, rx, tx⟩, ⟨y, ys, e2, ry, ty⟩, e => by
    subst e1 e2
    have e : (keyD a).bind (fun k => (Dl.zipKD as bs).map ((k, b) :: ·)) = some _ := e
    obtain ⟨k, e3, e4⟩ := bind_some e
    obtain ⟨kvs', e5, rfl⟩ := map_some e4
    obtain ⟨vs, e6, r6⟩ := RepL.zipKD tx ty e5
    exact ⟨(k, y) :: vs, by rw [List.zip_cons_cons, List.map_cons, e6, rx.key e3], ⟨y, vs, rfl, ry, r6⟩⟩
section
variable {X : Cx} {Γ : CM} {M : List Mode} {e e2 : Expr} {ta : TA} {fr : Env → Option (List D)} {p p2 q pos : Pos}
theorem de_dictZip (K : PySem.W.Frag) (hc : X.calm = true) (hm : X.mg "dict" = none) (hm2 : X.mg "zip" = none) (ha : DAr Γ X M [e, e2] ta fr [.bo, .bo]) (hg : Gl X "dict" := by rfl) (hg2 : Gl X "zip" := by rfl)
    (hs : starEach [e, e2] X.env = (false, eval e X.env) :: starEach [e2] X.env := by rfl) (hpl : (backTo q (starEach [e2] X.env)).any (·.1) = false := by rfl) (hK : X.K = K := by rfl) :
    DE Γ X M (.Call (.Name "dict" p) [.Call (.Name "zip" p2) [e, e2] [] q] [] pos) (tDictZip K ta) (vC1 opDictZ fr) .ow := by
  subst hK
  refine ⟨pe_dictZip hc hg hm hg2 hm2 ha.pa hs hpl, fun S0 H0 S H σ δ Q d w ef k => ?_⟩
  obtain ⟨ds, e1, e2⟩ := bind_some ef
  refine ha.snd S0 H0 S H σ δ _ ds w e1 fun vs S1 H1 x1 r1 => ?_
  match ds, e2, r1 with
  | [.lst as, .lst bs], e2, r1 =>
    obtain ⟨kvs, e3, rfl⟩ := map_some (show (zipKD as bs).map (fun kvs => D.dicK (mergeD [] kvs)) = some d from e2)
    obtain ⟨v, v2, rfl, ra, rb⟩ := ArgMs.get2 r1
    obtain ⟨p, xs, rfl, hp, hl, rl⟩ := ra.lst x1.sh (Same.refl _)
    obtain ⟨p', ys, rfl, hp', hl', rl'⟩ := rb.lst x1.sh (Same.refl _)
    obtain ⟨vs, e4, r4⟩ := rl.zipKD rl' e3
    exact ⟨p, p', xs, ys, vs, rfl, SqL.of hp, SqL.of hp', e4, fun q hq => (k.ext x1).newK rfl x1.sh (r4.merge rfl) hq⟩
end
end Dl
namespace Dl
open PySem L2
theorem zipKD_enc {κ α : Type} {ke : κ → Key} {ek : κ → D} (hk : ∀ j, keyD (ek j) = some (ke j)) (e : α → D) : ∀ (xs : List κ) (ys : List α), zipKD (xs.map ek) (ys.map e) = some ((xs.zip ys).map fun p => (ke p.1, e p.2))
  | [], ys => rfl
  | x :: xs, [] => rfl
  | x :: xs, y :: ys => by
    show (keyD (ek x)).bind (fun k => (zipKD (xs.map ek) (ys.map e)).map ((k, e y) :: ·)) = _
    rw [hk, Option.bind_some, zipKD_enc hk e xs ys]; rfl
theorem b_dictZ {κ α : Type} [DecidableEq κ] {ke : κ → Key} {ek : κ → D} {e : α → D} (inj : ∀ a b, ke a = ke b → a = b) (hk : ∀ j, keyD (ek j) = some (ke j)) (xs : List κ) (ys : List α) : opDictZ [eL ek xs, eL e ys] = some (eDK ke e (dictT (xs.zip ys))) := by
  show (zipKD (xs.map ek) (ys.map e)).map (fun kvs => D.dicK (mergeD [] kvs)) = _
  rw [zipKD_enc hk]
  show some (D.dicK (mergeD (([] : List (κ × α)).map fun p => (ke p.1, e p.2)) _)) = _
  rw [merge_enc inj]; rfl
end Dl
set_option maxHeartbeats 1000000
/-! a, b, c = a list; text.replace([..][i], [..][j]) behind a statement that puts a token out. -/
namespace Dl
open PySem L2 CwR PyProof.Rows
/-! ### a, b, c = [..] -/
def hLst (n : Nat) (hs : List D → Env → Option Env) : Hv := fun d δ => match d with | .lst ds => if ds.length = n then hs ds δ else none | _ => none
section
variable {X : Cx} {Γ : CM} {M M1 : List Mode} {es : List Expr} {gs : TGs} {hs : List D → Env → Option Env} {ws : List Nat} {pos : Pos}
theorem dg_lstK (K : PySem.W.Frag) {k n : Nat} (hc : X.calm = true) (h : DGs Γ X M es gs hs M1 ws) (hn : (assignEach es X.env).length = n := by rfl) (hst : (assignEach es X.env).findIdx? (·.1) = none := by rfl) (hK : X.K = K := by rfl) : DG Γ X M (.Tuple es k pos) (gLst K n gs) (hLst n hs) M1 ws := by
  subst hK
  exact ⟨pg_lst hc h.pgs hn hst, fun S0 H0 S H σ δ v d Q δ1 w r e kk => by
    cases d with
    | lst ds =>
      obtain ⟨a, vs, ev, hq, hl, rl⟩ := r
      have e' : (if ds.length = n then hs ds δ else none) = some δ1 := e
      by_cases c : ds.length = n
      · rw [if_pos c] at e'
        exact ⟨a, vs, ev, SqL.of (w.sH _ _ hq), by rw [rl.length]; exact c, h.snd S0 H0 S H σ δ vs ds Q δ1 w rl e' kk⟩
      · rw [if_neg c] at e'; cases e'
    | _ => cases e⟩
end
/-! ### replace -/
def pick (y0 y1 : Str) (i : Int) : Option Str := if i = 0 then some y0 else if i = 1 then some y1 else none
theorem pick_item {y0 y1 y : Str} {i : Int} (t : Tok) (h : pick y0 y1 i = some y) : 0 ≤ i ∧ i < 2 ^ 63 ∧ ∃ u, (#[Value.str y0 t, Value.str y1 (t + 1)] : Array Value)[i.toNat]? = some (.str y u) ∧ t ≤ u ∧ u ≤ t + 1 := by
  unfold pick at h
  by_cases c : i = 0
  · rw [if_pos c] at h; cases h; subst c; exact ⟨by omega, by decide, t, rfl, Nat.le_refl _, Nat.le_succ _⟩
  · rw [if_neg c] at h
    by_cases c1 : i = 1
    · rw [if_pos c1] at h; cases h; subst c1; exact ⟨by omega, by decide, t + 1, rfl, Nat.le_succ _, Nat.le_refl _⟩
    · rw [if_neg c1] at h; cases h
abbrev pairF (o : Obj) (y z : Str) : HO := .frz o (.lst [.str y, .str z])
def tRepIx (y0 y1 z0 z1 : Str) (to ti tj : TE) : TE := fun σ H Q => to σ H fun v H1 => ∃ x, v = .str x ∧
  ∀ (a : Addr) (o : Obj), H1 a = none → ti σ (upd H1 a (pairF o y0 y1)) fun vi H2 => ∃ i y, vi = .int i ∧ pick y0 y1 i = some y ∧ H2 a = some (pairF o y0 y1) ∧
  ∀ (b : Addr) (o' : Obj), H2 b = none → tj σ (upd H2 b (pairF o' z0 z1)) fun vj H3 => ∃ j z, vj = .int j ∧ pick z0 z1 j = some z ∧ H3 b = some (pairF o' z0 z1) ∧ (y == z) = false ∧
    x.length + (x.length + 1) * z.length ≤ 16777216 ∧ Q (.str (Txt.replace x y z)) H3
section
variable {X : Cx} {o ei ej : Expr} {to ti tj : TE} {y0 y1 z0 z1 : Str}
theorem pair_list {pins : List (Addr × Obj)} {σ : L2.St} {H : Hp} {s : Shared} {a : Addr} {ob : Obj} {y z : Str} {t u : Tok} (I : Inv X pins σ H s) (h : H a = some (pairF ob y z)) (hc : ob.cls = .type "list") {n : Nat} (hd : ob.data = .seq #[.str y t, .str z u] n) : s.heap.IsList a #[.str y t, .str z u] := by
  obtain ⟨h5, _⟩ := I.hok a _ h
  exact ⟨ob, h5, hc, n, hd⟩
theorem pet_rep {j0 j1 k0 k1 : Nat} {c0 c1 d0 d1 lp lp2 p1 p2 apos pos : Pos} (ho : PE X o to) (hi : PE X ei ti) (hj : PE X ej tj) (hpi : PlainIx ei) (hpj : PlainIx ej)
    (hst : starEach [.Subscript (.List [.Constant (.str y0) j0 c0, .Constant (.str y1) j1 c1] lp) ei p1, .Subscript (.List [.Constant (.str z0) k0 d0, .Constant (.str z1) k1 d1] lp2) ej p2] X.env =
      [(false, eval (.Subscript (.List [.Constant (.str y0) j0 c0, .Constant (.str y1) j1 c1] lp) ei p1) X.env), (false, eval (.Subscript (.List [.Constant (.str z0) k0 d0, .Constant (.str z1) k1 d1] lp2) ej p2) X.env)] := by rfl)
    (hbase : attributeBase o "replace" X.env (eval o X.env) = eval o X.env := by rfl) (hline : (apos.endLine == pos.line) = true := by rfl) :
    PET X (.Call (.Attribute o "replace" apos) [.Subscript (.List [.Constant (.str y0) j0 c0, .Constant (.str y1) j1 c1] lp) ei p1, .Subscript (.List [.Constant (.str z0) k0 d0, .Constant (.str z1) k1 d1] lp2) ej p2] [] pos) (tRepIx y0 y1 z0 z1 to ti tj) := by
  intro pins s σ H Q h0 I h
  refine PySem.Call_method2 hbase hst hline (wpAny_mono (PySem.wpAny_toks (ho.run pins s σ H _ I h)) (fun v s1 q => ?_) fun _ _ z => z.2)
  obtain ⟨hk, v', H1, I1, r1, x, e1, q⟩ := q
  subst e1
  obtain ⟨tx, e2⟩ := r1
  subst e2
  have h2l : (2 : Nat) ≤ sizeLine := by decide
  refine ⟨"str", _, PySem.F.plainAttrs_str, PySem.F.slot_str_replace, PySem.F.type_str_replace, typeIs_str _ _ _, (fun _ e => nomatch e), Calls.callWith_builtin rfl (Calls.evalArgs_plain (Calls.spliced_cons ?_))⟩
  refine Subscript_ (wpAny_List_spliced ?_)
  show wpAny _ _ (spliced ((false, eval (.Constant (.str y0) j0 c0) X.env) :: backTo lp (starEach [.Constant (.str y1) j1 c1] X.env))) _ _ s1
  refine Calls.spliced_cons (Calls.Constant_str ?_)
  show wpAny _ _ (spliced ((false, eval (.Constant (.str y1) j1 c1) X.env) :: backTo lp (starEach [] X.env))) _ _ _
  refine Calls.spliced_cons (Calls.Constant_str (Calls.spliced_nil ?_))
  refine ⟨h2l, ?_⟩
  have n1 : H1 s1.heap.objs.size = none := I1.hok.fresh (Nat.le_refl _)
  have I2 : Inv X pins σ (upd H1 s1.heap.objs.size (pairF { cls := .type "list", data := .seq #[.str y0 s1.toks, .str y1 (s1.toks + 1)] 0 } y0 y1)) { s1 with heap := s1.heap.push { cls := .type "list", data := .seq #[.str y0 s1.toks, .str y1 (s1.toks + 1)] 0 }, toks := s1.toks + 1 + 1 } :=
    I1.laid (t' := s1.toks + 1 + 1) (fun b u e => Heap.get?_push_of_some _ e) (Nat.le_refl _) ⟨Heap.get?_push_size _ rfl, h2l, [.str y0 s1.toks, .str y1 (s1.toks + 1)], 0, .cons ⟨_, rfl⟩ (.cons ⟨_, rfl⟩ .nil), Heap.get?_push_size _ rfl⟩
  refine wpAny_mono (PySem.wpAny_toks (hi.run pins _ σ _ _ I2 (q _ _ n1))) (fun vi s3 q3 => ?_) fun _ _ z => z.2
  obtain ⟨hk3, xi, H2, I3, ri, i, y, exi, hp, hfr, q⟩ := q3
  have hk3 : s1.toks + 1 + 1 ≤ s3.toks := hk3
  subst exi
  obtain ⟨ti', rfl⟩ := ri
  obtain ⟨g0, g1, u1, hu, hu1, hu2⟩ := pick_item s1.toks hp
  refine item_listR (s := s3) (pair_list I3 hfr rfl rfl) g0 g1 hu ?_ (hpi _ _)
  refine Calls.spliced_cons (Subscript_ (wpAny_List_spliced ?_))
  show wpAny _ _ (spliced ((false, eval (.Constant (.str z0) k0 d0) X.env) :: backTo lp2 (starEach [.Constant (.str z1) k1 d1] X.env))) _ _ s3
  refine Calls.spliced_cons (Calls.Constant_str ?_)
  show wpAny _ _ (spliced ((false, eval (.Constant (.str z1) k1 d1) X.env) :: backTo lp2 (starEach [] X.env))) _ _ _
  refine Calls.spliced_cons (Calls.Constant_str (Calls.spliced_nil ?_))
  refine ⟨h2l, ?_⟩
  have n3 : H2 s3.heap.objs.size = none := I3.hok.fresh (Nat.le_refl _)
  have I4 : Inv X pins σ (upd H2 s3.heap.objs.size (pairF { cls := .type "list", data := .seq #[.str z0 s3.toks, .str z1 (s3.toks + 1)] 0 } z0 z1)) { s3 with heap := s3.heap.push { cls := .type "list", data := .seq #[.str z0 s3.toks, .str z1 (s3.toks + 1)] 0 }, toks := s3.toks + 1 + 1 } :=
    I3.laid (t' := s3.toks + 1 + 1) (fun b u e => Heap.get?_push_of_some _ e) (Nat.le_refl _) ⟨Heap.get?_push_size _ rfl, h2l, [.str z0 s3.toks, .str z1 (s3.toks + 1)], 0, .cons ⟨_, rfl⟩ (.cons ⟨_, rfl⟩ .nil), Heap.get?_push_size _ rfl⟩
  refine wpAny_mono (PySem.wpAny_toks (hj.run pins _ σ _ _ I4 (q _ _ n3))) (fun vj s5 q5 => ?_) fun _ _ z => z.2
  obtain ⟨hk5, xj, H3, I5, rj, j, z, exj, hpz, hfz, hyz, hb, q⟩ := q5
  subst exj
  obtain ⟨tj', rfl⟩ := rj
  obtain ⟨g2, g3, u2, hz, hz1, hz2⟩ := pick_item s3.toks hpz
  refine item_listR (s := s5) (pair_list I5 hfz rfl rfl) g2 g3 hz ?_ (hpj _ _)
  refine Calls.spliced_nil ?_
  have hk' : s.toks ≤ s1.toks := hk
  have a1 : @LE.le Nat _ s1.toks u1 := hu1
  have a2 : @LE.le Nat _ u1 (s1.toks + 1) := hu2
  have a3 : @LE.le Nat _ s3.toks u2 := hz1
  have a4 : 1 ≤ s.toks := h0
  have b1 : @LT.lt Nat _ 0 u1 := by omega
  have b2 : @LT.lt Nat _ 0 u2 := by omega
  have b3 : @LT.lt Nat _ u1 u2 := by omega
  exact PySem.SC.replace (Nat.ne_of_gt b1) (Nat.ne_of_gt b2) (Nat.ne_of_lt b3) hyz hb fun t' k => ⟨.str (Txt.replace x y z), H3, I5.tok k, ⟨t', rfl⟩, q⟩
/-- a written text's item is stored: behind it a token is out -/
theorem pss_tokSub {st : List Stmt} {b : Expr} {tb : TE} {u : TS} {i j : Nat} {x c : Str} {cp p2 pos' pos : Pos} (hN : X.N.Nodup) (hi : X.N[i]? = some x) (hx : Loc X.env.scope x) (hu : X.A.units + 1 < cLine) (hb : PE X b tb) (hpi : PlainIx b) (h2 : PSsT X st u)
    (hs : swapsWith (.Subscript (.Constant (.str c) j cp) b p2) (some (.Name x pos')) pos.line X.env = pure false := by rfl) (hf : X.fn x = true ∨ X.env.scope.names.lookup x = some .local := by first | exact .inl rfl | exact .inr rfl | assumption) :
    PSs X (.Assign [.Name x pos'] (.Subscript (.Constant (.str c) j cp) b p2) pos :: st) (tSeq (tAsg (tOp (rIxA X.K) (tC (.str c)) tb) (gName i)) u) := by
  refine ⟨fun pins s σ H D I h => ?_⟩
  refine wpAny_execs_cons (wpAny_Assign_Name (Subscript_ (Calls.Constant_str ?_)) hs)
  have h : tb σ H fun y H1 => rIxA X.K (.str c) y H1 fun v H2 => u D (σ.set i (some v)) H2 := h
  refine wpAny_mono (PySem.wpAny_toks (hb.run pins _ σ H _ (I.tok (s.toks + 1)) h)) (fun w s2 q => ?_) fun _ _ z => z.2
  obtain ⟨hk2, y, H1, I1, r1, q1⟩ := q
  have hk2 : s.toks + 1 ≤ s2.toks := hk2
  refine wpAny_mono (PySem.wpAny_toks (ix_all hu _ _ pins s2 σ H1 (.str c) y (.str c s.toks) w _ I1 ⟨_, rfl⟩ r1 q1 (hpi _ _))) (fun v s3 q => ?_) fun _ _ z => z.2
  obtain ⟨hk3, z, H2, I2, r2, q2⟩ := q
  refine wpAny_mono (PySem.wpAny_toks (store_ok (v := z) (u := v) (Q := fun _ s4 => Inv X pins (σ.set i (some z)) H2 s4) I2 hN hi hx r2 (fun _ I3 => I3) hf)) (fun _ s4 q => ?_) fun _ _ z => z.2
  have hk4 : s3.toks ≤ s4.toks := q.1
  exact h2 pins s4 _ H2 D (by omega) q.2 q2
end
structure DET (Γ : CM) (X : Cx) (M : List Mode) (e : Expr) (t : TE) (f : Ev) (m : Mode) : Prop where
  pet : PET X e t
  snd : SndE X.K Γ M t f m
structure DST (Γ : CM) (X : Cx) (E : WX) (rm : Mode) (M : List Mode) (st : Stmt) (t : TS) (f : Sv) (M' : List Mode) (ws : List Nat) : Prop where
  pst : PST X st t
  snd : SndS X.K Γ E rm M t f M' ws
structure DSsT (Γ : CM) (X : Cx) (E : WX) (rm : Mode) (M : List Mode) (st : List Stmt) (t : TS) (f : Sv) (M' : List Mode) (ws : List Nat) : Prop where
  psst : PSsT X st t
  snd : SndS X.K Γ E rm M t f M' ws
section
variable {X : Cx} {Γ : CM} {E : WX} {rm : Mode} {M M1 M2 : List Mode} {st : Stmt} {rest body els : List Stmt} {e o ei ej c b : Expr} {te to ti tj tb : TE} {tc : TT} {t u : TS} {f fo fi fj fb : Ev} {p : Env → Option Bool} {s s' : Sv} {m mo mi mj mb : Mode} {pos : Pos} {ws wt : List Nat} {y0 y1 z0 z1 : Str}
def replT (x y z : Str) : Option Str := if (y == z) = false ∧ x.length + (x.length + 1) * z.length ≤ 16777216 then some (Txt.replace x y z) else none
def rplT (y0 y1 z0 z1 x : Str) (i j : Int) : Option Str := (pick y0 y1 i).bind fun y => (pick z0 z1 j).bind fun z => replT x y z
def vRep (y0 y1 z0 z1 : Str) (fo fi fj : Ev) : Ev := fun δ => (fo δ).bind fun d => (fi δ).bind fun i => (fj δ).bind fun j => match d, i, j with
  | .str x, .int i, .int j => (rplT y0 y1 z0 z1 x i j).map D.str
  | _, _, _ => none
theorem det_rep {j0 j1 k0 k1 : Nat} {c0 c1 d0 d1 lp lp2 p1 p2 apos : Pos} (ho : DE Γ X M o to fo mo) (hi : DE Γ X M ei ti fi mi) (hj : DE Γ X M ej tj fj mj) (hpi : PlainIx ei := by exact fun _ _ => rfl) (hpj : PlainIx ej := by exact fun _ _ => rfl)
    (hst : starEach [.Subscript (.List [.Constant (.str y0) j0 c0, .Constant (.str y1) j1 c1] lp) ei p1, .Subscript (.List [.Constant (.str z0) k0 d0, .Constant (.str z1) k1 d1] lp2) ej p2] X.env =
      [(false, eval (.Subscript (.List [.Constant (.str y0) j0 c0, .Constant (.str y1) j1 c1] lp) ei p1) X.env), (false, eval (.Subscript (.List [.Constant (.str z0) k0 d0, .Constant (.str z1) k1 d1] lp2) ej p2) X.env)] := by rfl)
    (hbase : attributeBase o "replace" X.env (eval o X.env) = eval o X.env := by rfl) (hline : (apos.endLine == pos.line) = true := by rfl) :
    DET Γ X M (.Call (.Attribute o "replace" apos) [.Subscript (.List [.Constant (.str y0) j0 c0, .Constant (.str y1) j1 c1] lp) ei p1, .Subscript (.List [.Constant (.str z0) k0 d0, .Constant (.str z1) k1 d1] lp2) ej p2] [] pos) (tRepIx y0 y1 z0 z1 to ti tj) (vRep y0 y1 z0 z1 fo fi fj) .sh :=
  ⟨pet_rep ho.pe hi.pe hj.pe hpi hpj hst hbase hline, fun S0 H0 S H σ δ Q d w ef k => by
    obtain ⟨d1, e1, e2⟩ := bind_some ef
    obtain ⟨d2, e3, e4⟩ := bind_some e2
    obtain ⟨d3, e5, e6⟩ := bind_some e4
    refine ho.snd S0 H0 S H σ δ _ d1 w e1 fun v S1 H1 x1 r1 _ => ?_
    have w1 := w.mono x1
    cases d1 with
    | str x =>
      cases d2 with
      | int i =>
        cases d3 with
        | int j =>
          obtain ⟨r, e7, rfl⟩ := map_some (show (rplT y0 y1 z0 z1 x i j).map D.str = some d from e6)
          unfold rplT at e7
          obtain ⟨y, e8, e9⟩ := bind_some e7
          obtain ⟨z, e10, e11⟩ := bind_some e9
          unfold replT at e11
          obtain ⟨⟨c1, c2⟩, rfl⟩ := ite_some e11
          refine ⟨x, (r1.str w1.h0).1, fun a ob na => ?_⟩
          have x2 : Ext S1 H1 S1 (upd H1 a (pairF ob y0 y1)) := Ext.owned x1.sh na _
          refine hi.snd S0 H0 S1 _ σ δ _ _ (w1.mono x2) e3 fun vi S3 H3 x3 r3 _ => ?_
          have w3 := (w1.mono x2).mono x3
          refine ⟨i, y, r3.int w3.h0, e8, x3.hh _ _ upd_same, fun b ob' nb => ?_⟩
          have x4 : Ext S3 H3 S3 (upd H3 b (pairF ob' z0 z1)) := Ext.owned x3.sh nb _
          refine hj.snd S0 H0 S3 _ σ δ _ _ (w3.mono x4) e5 fun vj S5 H5 x5 r5 _ => ?_
          have w5 := (w3.mono x4).mono x5
          refine ⟨j, z, r5.int w5.h0, e10, x5.hh _ _ upd_same, c1, c2, ?_⟩
          exact (k.ext (((x1.trans x2).trans x3).trans (x4.trans x5))).flat x5.sh ⟨rfl, Nat.le_trans (TK.replace_len x y z) (Nat.le_trans c2 (by decide))⟩
        | _ => cases e6
      | _ => cases e6
    | _ => cases e6⟩
theorem dst_ret (he : DET Γ X M e te f rm) : DST Γ X E rm M (.Return (some e) pos) (tRet te) (sRet f) M1 [] := ⟨pst_ret he.pet, fun S0 H0 S H σ δ Dn o w ef k => by
  unfold sRet at ef
  cases q : f δ with
  | none => rw [q] at ef; cases ef
  | some d =>
    rw [q] at ef; cases ef
    exact he.snd S0 H0 S H σ δ _ d w q fun v S1 H1 x1 r1 fr => k v S1 H1 (w.ext.trans x1) r1 fun z a ev => w.ext.hh.free (fr z a ev)⟩
theorem DS.toT (h : DS Γ X E rm M st t s M1 ws) : DST Γ X E rm M st t s M1 ws := ⟨PST.of h.ps, h.snd⟩
theorem DSs.toT (h : DSs Γ X E rm M rest t s M1 ws) : DSsT Γ X E rm M rest t s M1 ws := ⟨PSsT.of h.pss, h.snd⟩
theorem dsst_one (h1 : DST Γ X E rm M st t s M1 ws) : DSsT Γ X E rm M [st] t s M1 ws := ⟨psst_one h1.pst, h1.snd⟩
theorem dsst_cons (h1 : DST Γ X E rm M st t s M1 ws) (h2 : DSsT Γ X E rm M1 rest u s' M2 wt) : DSsT Γ X E rm M (st :: rest) (tSeq t u) (sSeq s s') M2 (ws ++ wt) := ⟨psst_cons h1.pst h2.psst, snd_seq h1.snd h2.snd⟩
theorem dst_if (hc : DT Γ X M c tc p) (ha : DSsT Γ X E rm M body t s M1 ws) (hb : DSsT Γ X E rm M els u s' M1 wt) : DST Γ X E rm M (.If c body els pos) (tIfS tc t u) (sIf p s s') M1 (ws ++ wt) := ⟨pst_if hc.pt ha.psst hb.psst, fun S0 H0 S H σ δ Dn o w ef k => by
  obtain ⟨b, e1, e2⟩ := bind_some ef
  refine hc.snd S0 H0 S H σ δ _ b w e1 fun S1 H1 x1 => ?_
  cases b with
  | true => rw [if_pos rfl] at e2 ⊢; exact ha.snd S0 H0 S1 H1 σ δ Dn o (w.mono x1) e2 ((k.ss x1.ss).up fun j => List.mem_append_left _)
  | false => rw [if_neg Bool.false_ne_true] at e2 ⊢; exact hb.snd S0 H0 S1 H1 σ δ Dn o (w.mono x1) e2 ((k.ss x1.ss).up fun j => List.mem_append_right _)⟩
theorem dss_tokSub (K : PySem.W.Frag) {i j : Nat} {x cc : Str} {cp p2 pos' : Pos} (hN : X.N.Nodup) (hu : X.A.units + 64 < cLine) (hb : DE Γ X M b tb fb mb) (h2 : DSsT Γ X E rm M1 rest u s' M2 wt) (hM : M.set i .sh = M1 := by rfl) (hi : X.N[i]? = some x := by rfl) (hx : Loc X.env.scope x := by first | exact Or.inl rfl | exact Or.inr rfl) (hl : i < M.length := by decide) (hz : cc.length ≤ sizeLine := by decide +kernel)
    (hpi : PlainIx b := by exact fun _ _ => rfl) (hs : swapsWith (.Subscript (.Constant (.str cc) j cp) b p2) (some (.Name x pos')) pos.line X.env = pure false := by rfl) (hf : X.fn x = true ∨ X.env.scope.names.lookup x = some .local := by first | exact .inl rfl | exact .inr rfl | assumption) (hK : X.K = K := by rfl) :
    DSs Γ X E rm M (.Assign [.Name x pos'] (.Subscript (.Constant (.str cc) j cp) b p2) pos :: rest) (tSeq (tAsg (tOp (rIxA K) (tC (.str cc)) tb) (gName i)) u) (sSeq (sSet i (v2 opIx (vC (.str cc)) fb)) s') M2 ([i] ++ wt) := by
  subst hK
  subst hM
  exact ⟨pss_tokSub hN hi hx (by omega) hb.pe hpi h2.psst hs hf, snd_seq (snd_set hl (.inl rfl) (snd_op snd_ix (snd_c fun _ => ⟨rfl, hz⟩) hb.snd)) h2.snd⟩
end
end Dl
namespace Dl
open PySem L2
section
variable {α : Type} {e : α → D} {f fo fi fj : Ev} {δ : Env} {X : Option (List α)} {So : Option Str} {I J : Option Int} {y0 y1 z0 z1 : Str}
def un2 (xs : List α) : Option (α × α) := match xs with | [a, b] => some (a, b) | _ => none
def un3 (xs : List α) : Option (α × α × α) := match xs with | [a, b, c] => some (a, b, c) | _ => none
def eL2 (e : α → D) (p : α × α) : D := .lst [e p.1, e p.2]
def eL3 (e : α → D) (p : α × α × α) : D := .lst [e p.1, e p.2.1, e p.2.2]
theorem un2M (a : EvM f δ (eL e) X) : EvM f δ (eL2 e) (X.bind un2) := fun r q => by
  obtain ⟨xs, q1, q2⟩ := bind_eq q
  rw [a xs q1]
  match xs, q2 with
  | [x, y], q2 => cases q2; rfl
theorem un3M (a : EvM f δ (eL e) X) : EvM f δ (eL3 e) (X.bind un3) := fun r q => by
  obtain ⟨xs, q1, q2⟩ := bind_eq q
  rw [a xs q1]
  match xs, q2 with
  | [x, y, z], q2 => cases q2; rfl
theorem vRep_def (fo fi fj : Ev) (δ : Env) : vRep y0 y1 z0 z1 fo fi fj δ = (fo δ).bind fun d => (fi δ).bind fun i => (fj δ).bind fun j => match d, i, j with
  | .str x, .int i, .int j => (rplT y0 y1 z0 z1 x i j).map D.str
  | _, _, _ => none := rfl
theorem rplM (a : EvM fo δ D.str So) (b : EvM fi δ D.int I) (c : EvM fj δ D.int J) : EvM (vRep y0 y1 z0 z1 fo fi fj) δ D.str (So.bind fun x => I.bind fun i => J.bind fun j => rplT y0 y1 z0 z1 x i j) := fun r q => by
  obtain ⟨x, q1, q2⟩ := bind_eq q
  obtain ⟨i, q3, q4⟩ := bind_eq q2
  obtain ⟨j, q5, q6⟩ := bind_eq q4
  rw [vRep_def, a x q1, Option.bind_some, b i q3, Option.bind_some, c j q5, Option.bind_some]
  show (rplT y0 y1 z0 z1 x i j).map D.str = _
  rw [q6]; rfl
def mapRt {β : Type} (g : α → β) (T : Option (Rt α)) : Option (Rt β) := T.map fun r => match r with | .ok x => .ok (g x) | .ex c => .ex c
theorem xvMap {β : Type} {e2 : β → D} {g : α → β} {fx : Xv} {TX : Option (Rt α)} (h : XvM fx δ e TX) (hc : ∀ x, e2 (g x) = e x) : XvM fx δ e2 (mapRt g TX) := fun r q => by
  cases TX with
  | none => cases q
  | some y =>
    cases y with
    | ok x => cases q; rw [h _ rfl]; show some (Res.ok (e x)) = some (Res.ok (e2 (g x))); rw [hc]
    | ex c => cases q; rw [h _ rfl]; rfl
theorem stNv {β : Type} {s : Sv} {g : β → Out} : St s δ g none := fun r q => by cases q
end
end Dl
set_option maxHeartbeats 1000000
/-! for x in reversed(range(n)); text.join(reversed(list)); tuple.index. -/
namespace Dl
open PySem L2 PyProof.Rows
section
variable {X : Cx} {Γ : CM} {M : List Mode} {a e o tg : Expr} {ta te to : TE} {f fo fe : Ev} {m mo me : Mode} {pos apos : Pos} {K : PySem.W.Frag}
theorem rngD_rev (n i : Nat) (h : i < n) : (rngD 0 n).reverse[i]? = some (D.int ((n : Int) - 1 + (i : Nat) * (-1))) := by
  rw [List.getElem?_reverse (by rw [rngD_len]; exact h), rngD_len]
  unfold rngD
  rw [List.getElem?_map, List.getElem?_range (by omega)]
  have e : (0 : Int) + ((n - 1 - i : Nat) : Int) = (n : Int) - 1 + (i : Nat) * (-1) := by omega
  rw [← e]; rfl
theorem itc_at {S H : Hp} {n : Nat} {lo : Int} (e : lo = (n : Int) - 1) (sh : Same S H) : ItAt K Γ (Itc lo (-1) n) (rngD 0 n).reverse S H := by
  subst e
  have ln : (rngD 0 n).reverse.length = n := by rw [List.length_reverse, rngD_len]
  refine ⟨fun i d hd => ?_, by rw [ln]; exact Nat.le_refl _⟩
  have hi : i < n := by rw [← ln]; exact (List.getElem?_eq_some_iff.mp hd).1
  rw [rngD_rev n i hi] at hd
  cases hd
  refine ⟨hi, fun x H2 y => ?_⟩
  obtain ⟨e1, e2⟩ := y
  subst e1 e2
  exact ⟨S, Ext.refl sh, rfl⟩
def iRevRF (f : Ev) : Env → Option (List D) := fun δ => (f δ).bind fun d => match d with | .int j => if -1000000 ≤ j ∧ j ≤ 1000000 then some (rngD 0 j.toNat).reverse else none | _ => none
theorem di_revRng {p p2 pos2 : Pos} (hn : X.mg "range" = none) (hn2 : X.mg "reversed" = none) (ha : DE Γ X M a ta f m) (hg : Gl X "range" := by rfl) (hg2 : Gl X "reversed" := by rfl) (na : starEach [a] X.env = (false, eval a X.env) :: starEach [] X.env := by rfl)
    (hs : starEach [.Call (.Name "range" p) [a] [] pos] X.env = (false, eval (.Call (.Name "range" p) [a] [] pos) X.env) :: starEach [] X.env := by rfl) :
    DI Γ X M tg (.Call (.Name "reversed" p2) [.Call (.Name "range" p) [a] [] pos] [] pos2) (iRevR (tRg1 ta)) (iRevRF f) := ⟨pi_revR hg2 hn2 (prg_1 hg hn ha.pe na) hs, fun S0 H0 S H σ δ R ds w ef k => by
  obtain ⟨d, e1, e2⟩ := bind_some ef
  refine ha.snd S0 H0 S H σ δ _ d w e1 fun v S1 H1 x1 r1 _ => ?_
  cases d with
  | int j =>
    have e2 : (if -1000000 ≤ j ∧ j ≤ 1000000 then some (rngD 0 j.toNat).reverse else none) = some ds := e2
    obtain ⟨hj, rfl⟩ := ite_some e2
    refine ⟨j, r1.int (w.mono x1).h0, by decide, by decide, by omega, by omega, k _ S1 H1 x1 ⟨?_, fun S2 H2 x2 s2 => ?_⟩⟩
    · rw [List.length_reverse, rngD_len]; have := million; omega
    · have := itc_at (K := X.K) (Γ := Γ) (S := S2) (H := H2) (n := j.toNat) (lo := 0 + (((j - 0).toNat : Nat) : Int) - 1) (by omega) x2.sh
      rw [show (j - 0).toNat = j.toNat by omega]
      rw [show (j - 0).toNat = j.toNat by omega] at this
      exact this
  | _ => cases e2⟩
end
/-! ### text.join(reversed(list)) -/
section
variable {prog : Program} {w : World} {A : Around} {E : Value → Shared → Prop} {s : Shared}
theorem join_rev {x : Str} {t : Tok} {ys : List Str} {it l : Addr} {items : Array Value} {Q : Value → Shared → Prop} (hh : A.handled = none) (hit : s.heap.IsRevIter it l ((items.size : Int) - 1)) (hl : s.heap.IsList l items) (hne : l ≠ it) (hn : items.size ≤ sizeLine)
    (hP : ∀ acc : Array Value, ItemsOf (fun i v => items[items.size - 1 - i]? = some v) acc items.size → StrsAre acc.toList ys) (hok : (ys.map (·.length)).sum + ys.length * x.length ≤ 16777216)
    (hq : ∀ h' t' k, (∀ b o, b ≠ it → s.heap.get? b = some o → h'.get? b = some o) → Q (.str (Txt.join x ys) t') { s with heap := h', toks := k }) :
    wpAny (model prog w) A (call (.builtin "str.join") [.str x t, .ref it]) Q E s := by
  refine wpAny_call (codeAny_call_builtin F.slot_str_join.plain F.entry_str_join (F.slot_str_join.check _ _ _ _ _ _ _ _ (typeIs_str _ _ _) (F.args_str_join_2 _ _) ?_))
  rw [join_tree_other]
  refine wpAny_bind (wpAny_typeOf hit.typeIs ?_)
  show wpAny _ A.in1 ((pyIter (.ref it)).tryCatch _ >>= fun it => collect it >>= fun items => joinTail x items) _ _ s
  refine wpAny_bind (wpAny_tryCatch (wpAny_pyIter_revIter hit ?_))
  have hh1 : A.in1.handled = none := hh
  refine wpAny_bind (RT.collect_rev (A := A.in1) hh1 hit hl hne hn fun h' tk acc hk hacc => ?_)
  obtain ⟨l, hl, ht⟩ := strsAre_values (hP acc hacc)
  subst ht
  rw [hl]
  have hok' := joinOk_of hok
  unfold JoinOk at hok'
  rw [Bool.not_eq_true'] at hok'
  have g : Gives (joinTail x (strValues l)) (joinMade x l) := by
    have g0 := gives_joinTail x l hok'
    cases l with
    | nil => exact g0
    | cons p r => cases r with
      | nil => exact g0
      | cons q r' => exact g0
  exact g prog w A (wants Q E) _ (post_join l ⟨joinFit_length hok', fun t' k => hq h' t' k hk⟩)
end
def tJoinRev (K : PySem.W.Frag) (to te : TE) : TE := fun σ H Q => to σ H fun x H1 => ∃ a, x = .str a ∧ te σ H1 fun v H2 => ∃ (q : Addr) (ys : List Str), v = .ref q ∧ SqL K H2 q (ys.map V.str) ∧ (ys.map (·.length)).sum + ys.length * a.length ≤ 16777216 ∧ Q (.str (Txt.join a ys.reverse)) H2
section
variable {X : Cx} {Γ : CM} {M : List Mode} {a e o tg : Expr} {ta te to : TE} {f fo fe : Ev} {m mo me : Mode} {pos apos : Pos}
theorem pe_joinRev {p pos2 : Pos} (hc : X.calm = true) (ho : PE X o to) (hg : Gl X "reversed") (hm : X.mg "reversed" = none) (he : PE X e te)
    (hs : starEach [e] X.env = (false, eval e X.env) :: starEach [] X.env := by rfl)
    (hs1 : starEach [.Call (.Name "reversed" p) [e] [] pos2] X.env = [(false, eval (.Call (.Name "reversed" p) [e] [] pos2) X.env)] := by rfl)
    (hbase : attributeBase o "join" X.env (eval o X.env) = eval o X.env := by rfl) (hline : (apos.endLine == pos.line) = true := by rfl) :
    PE X (.Call (.Attribute o "join" apos) [.Call (.Name "reversed" p) [e] [] pos2] [] pos) (tJoinRev X.K to te) := by
  refine ⟨fun pins s σ H Q I h => ?_⟩
  refine PySem.Call_method1 hbase hs1 hline (thn (ho.run pins s σ H _ I h) fun v s1 ⟨x, H1, I1, r1, q1⟩ => ?_)
  obtain ⟨a, rfl, q1⟩ := q1
  obtain ⟨t, rfl⟩ := _root_.id r1
  refine ⟨"str", _, F.plainAttrs_str, F.slot_str_join, F.type_str_join, typeIs_str _ _ _, (fun _ e => nomatch e), Calls.callWith_builtin rfl (Calls.evalArgs_plain (Calls.spliced_cons ?_))⟩
  refine Call_ (ld_blt I1 hg hm PyProof.Rows.boot_reversed (PyProof.Rows.callWith_type1 (args_cons (thn (he.run pins s1 σ H1 _ I1 q1) fun u s2 ⟨v, H2, I2, r2, q2⟩ => args_nil ?_) hs) hs rfl))
  obtain ⟨q, ys, ev, hq, hz, q2⟩ := q2
  subst ev
  obtain rfl : u = Value.ref q := r2
  obtain ⟨its, rv, p', hz2⟩ := I2.list hq
  refine call_reversed_list p'.isList (Calls.spliced_nil ?_)
  have k0 : ∀ b o, s2.heap.get? b = some o → (s2.heap.push (revObj q ((its.toArray.size : Int) - 1))).get? b = some o := fun b o e => Heap.get?_push_of_some _ e
  have I3 : Inv X pins σ H2 { s2 with heap := s2.heap.push (revObj q ((its.toArray.size : Int) - 1)) } := I2.kept (t' := s2.toks) k0
  obtain ⟨f0, f1, f2, f3, f4, f5⟩ := I2.fpOk (H' := H2) (b := s2.heap.objs.size) (Nat.le_refl _) (I2.hok.fresh (Nat.le_refl _))
  have hl := p'.isList
  obtain ⟨ol, hol, _⟩ := _root_.id hl
  have hne : q ≠ s2.heap.objs.size := Nat.ne_of_lt (Heap.lt_size hol)
  have hn : its.toArray.size ≤ sizeLine := by rw [List.size_toArray, ← rv.length]; exact hz2
  refine join_rev (s := { s2 with heap := s2.heap.push (revObj q ((its.toArray.size : Int) - 1)) }) (ys := ys.reverse) (I2.ok.hd hc) ⟨_, Heap.get?_push_size _ rfl, rfl, rfl⟩ (hl.push _) hne hn (fun acc hacc => ?_) ?_ fun h' t' k hk => ⟨.str _, H2, ?_, ⟨t', rfl⟩, q2⟩
  · exact strsAre_of (by rw [List.map_reverse]; exact RT.vals_rev rv hacc)
  · rw [List.map_reverse, List.sum_reverse, List.length_reverse]; exact hz
  · exact I3.turned (t' := k) (fun b o hb e => hk b o hb e) f0 f1 f3 f4 f5
def vJoinR (fo fe : Ev) : Ev := fun δ => (fo δ).bind fun d => (fe δ).bind fun l => match d, l with
  | .str x, .lst ds => mJoin x [.lst ds.reverse]
  | _, _ => none
theorem strsOf_rev : ∀ {ds : List D} {xs : List Str}, strsOf ds.reverse = some xs → strsOf ds = some xs.reverse := by
  have app : ∀ (as bs : List D), strsOf (as ++ bs) = (strsOf as).bind fun x => (strsOf bs).map (x ++ ·) := by
    intro as bs
    induction as with
    | nil => show strsOf bs = _; cases strsOf bs <;> rfl
    | cons a as ih =>
      cases a with
      | str y =>
        show (strsOf (as ++ bs)).map (y :: ·) = ((strsOf as).map (y :: ·)).bind _
        rw [ih]
        cases strsOf as with
        | none => rfl
        | some x => cases strsOf bs <;> rfl
      | _ => rfl
  intro ds
  induction ds with
  | nil => intro xs h; cases h; rfl
  | cons d ds ih =>
    intro xs h
    rw [List.reverse_cons, app] at h
    obtain ⟨ys, e1, e2⟩ := bind_some h
    obtain ⟨zs, e3, rfl⟩ := map_some e2
    cases d with
    | str y =>
      cases e3
      show (strsOf ds).map (y :: ·) = _
      rw [ih e1]
      simp
    | _ => cases e3
theorem de_joinRev (K : PySem.W.Frag) {p pos2 : Pos} (hc : X.calm = true) (hm : X.mg "reversed" = none) (ho : DE Γ X M o to fo mo) (he : DE Γ X M e te fe me) (hg : Gl X "reversed" := by rfl)
    (hs : starEach [e] X.env = (false, eval e X.env) :: starEach [] X.env := by rfl)
    (hs1 : starEach [.Call (.Name "reversed" p) [e] [] pos2] X.env = [(false, eval (.Call (.Name "reversed" p) [e] [] pos2) X.env)] := by rfl)
    (hbase : attributeBase o "join" X.env (eval o X.env) = eval o X.env := by rfl) (hline : (apos.endLine == pos.line) = true := by rfl) (hK : X.K = K := by rfl) :
    DE Γ X M (.Call (.Attribute o "join" apos) [.Call (.Name "reversed" p) [e] [] pos2] [] pos) (tJoinRev K to te) (vJoinR fo fe) .sh := by
  subst hK
  refine ⟨pe_joinRev hc ho.pe hg hm he.pe hs hs1 hbase hline, fun S0 H0 S H σ δ Q d w ef k => ?_⟩
  obtain ⟨d1, e1, e2⟩ := bind_some ef
  obtain ⟨d2, e3, e4⟩ := bind_some e2
  refine ho.snd S0 H0 S H σ δ _ d1 w e1 fun v S1 H1 x1 r1 _ => ?_
  have w1 := w.mono x1
  cases d1 with
  | str x =>
    cases d2 with
    | lst ds =>
      obtain ⟨xs, e5, e6⟩ := bind_some (show (strsOf ds.reverse).bind (fun ys => if (ys.map (·.length)).sum + ys.length * x.length ≤ 16777216 ∧ (Txt.join x ys).length ≤ sizeLine then some (D.str (Txt.join x ys)) else none) = some d from e4)
      obtain ⟨c, rfl⟩ := ite_some e6
      refine ⟨x, (r1.str w1.h0).1, he.snd S0 H0 S1 H1 σ δ _ _ w1 e3 fun u S2 H2 x2 r2 _ => ?_⟩
      obtain ⟨p, vs, rfl, hp, hl, rl⟩ := r2.lst x2.sh (w1.mono x2).h0
      have ew := rl.strsOf (strsOf_rev e5)
      refine ⟨p, xs.reverse, rfl, by rw [← ew]; exact SqL.of hp, by rw [List.map_reverse, List.sum_reverse, List.length_reverse]; exact c.1, ?_⟩
      rw [List.reverse_reverse]
      exact (k.ext (x1.trans x2)).flat x2.sh ⟨rfl, c.2⟩
    | _ => cases e4
  | _ => cases e4
/-! ### a tuple's index of a text -/
def opIndexK (l y : D) : Option D := match l with
  | .ktup ds => match y with
    | .str z => (strsOf ds).bind fun xs => (xs.findIdx? fun x => decide (x = z)).map fun (j : Nat) => D.int (j : Int)
    | _ => none
  | _ => none
def vIndexK (fo fe : Ev) : Ev := fun δ => (fo δ).bind fun l => (fe δ).bind fun y => opIndexK l y
theorem de_indexK (K : PySem.W.Frag) {A : Addr} {ds : List D} {cpos : Pos} (lk : ∃ ob, K.lookup A = some ob ∧ ob.cls = .type "tuple" ∧ ob.dict = none) (rp : ∀ S, Rep K Γ S (.ktup ds) (.ref A)) (ho : PE X o (tC (.ref A))) (he : DE Γ X M e te fe me) (hme : okS me = true := by rfl)
    (h1 : attributeBase o "index" X.env (eval o X.env) = eval o X.env := by rfl)
    (h2 : (((backTo cpos (starEach [e] X.env)).all (!·.1)) && ((backToKw cpos (keywordEach [] X.env)).all (·.1.isSome)) && decide (([e].length + ([] : List Keyword).length + if ([] : List Keyword).isEmpty = true then 0 else 1) < 30)) = true := by rfl) (h3 : (apos.endLine == cpos.line) = true := by rfl)
    (h4 : starEach [e] X.env = (false, eval e X.env) :: starEach [] X.env := by rfl) (h5 : (backTo cpos (starEach [] X.env)).any (·.1) = false := by rfl) (hK : X.K = K := by rfl) :
    DE Γ X M (.Call (.Attribute o "index" apos) [e] [] cpos) (tBM K "tuple" (fun x xs H Q => ∃ p, ∃ ys : List Str, ∃ z j, x = .ref p ∧ xs = [.str z] ∧ SqT K H p (ys.map V.str) ∧ ys[j]? = some z ∧ (∀ m, m < j → ys[m]? ≠ some z) ∧ Q (.int (j : Nat)) H) (tC (.ref A)) (tCons te tNil)) (vIndexK (vC (.ktup ds)) fe) .sh := by
  subst hK
  refine ⟨pe_bm PySem.F.plainAttrs_tuple PySem.F.slot_tuple_index PySem.F.type_tuple_index mt_tup_index ho (pa_cons he.pe pa_nil h4) h1 h2 h3 h4 h5, fun S0 H0 S H σ δ Q d w ef k => ?_⟩
  obtain ⟨l, e1, e2⟩ := bind_some ef
  obtain ⟨y, e3, e4⟩ := bind_some e2
  cases e1
  cases y with
  | str z =>
    obtain ⟨xs, e5, e6⟩ := bind_some (show (strsOf ds).bind (fun xs => (xs.findIdx? fun x => decide (x = z)).map fun (j : Nat) => D.int (j : Int)) = some d from e4)
    obtain ⟨j, e7, rfl⟩ := map_some e6
    obtain ⟨p, vs, ep, hp, hl, rl⟩ := rp S
    cases ep
    have ew := rl.strsOf e5
    refine ⟨.inr (.inl ⟨rfl, lk⟩), ?_⟩
    refine (he.snd.sh hme) S0 H0 S H σ δ _ _ w e3 fun u S2 H2 x2 r2 _ => ?_
    have eu : u = .str z := (r2.str (w.mono x2).h0).1
    obtain ⟨hj, hz, hno⟩ := List.findIdx?_eq_some_iff_getElem.mp e7
    refine ⟨A, xs, z, j, rfl, by rw [eu], by rw [← ew]; exact Same.sqt (w.sH.trans x2.hh) hp, ?_, fun m hm z' => ?_, ?_⟩
    · rw [List.getElem?_eq_getElem hj, of_decide_eq_true hz]
    · rw [List.getElem?_eq_getElem (Nat.lt_trans hm hj)] at z'
      have : ¬ (decide (xs[m] = z) = true) := by simpa using hno m hm
      exact this (decide_eq_true (Option.some.inj z'))
    · exact k (.int (j : Int)) S2 H2 x2 rfl fun q => by cases q
  | _ => cases e4
end
/-! ### a, b, c = x, y, z -/
def tPar3 (i j k : Nat) (ta : TA) : TS := fun D σ H => ta σ H fun vs H1 => ∃ v w u, vs = [v, w, u] ∧ D.nx (((σ.set k (some u)).set j (some w)).set i (some v)) H1
theorem ps_par3 {X : Cx} {i j k : Nat} {x y z : Str} {a b c : Expr} {ta : TA} {px py pz pt pos : Pos} {kt k2 pt2} (hc : X.calm = true) (hN : X.N.Nodup) (hi : X.N[i]? = some x) (hj : X.N[j]? = some y) (hk : X.N[k]? = some z)
    (hx : X.env.scope.names.lookup x = some .local) (hy : X.env.scope.names.lookup y = some .local) (hz : X.env.scope.names.lookup z = some .local) (ha : PA X [a, b, c] ta)
    (hw : swappedStores [.Tuple [.Name x px, .Name y py, .Name z pz] kt pt] (.Tuple [a, b, c] k2 pt2) X.env = pure (some [x, y, z]))
    (hs : swapsWithSole [.Tuple [.Name x px, .Name y py, .Name z pz] kt pt] (.Tuple [a, b, c] k2 pt2) pos.line X.env = pure false := by rfl) :
    PS X (.Assign [.Tuple [.Name x px, .Name y py, .Name z pz] kt pt] (.Tuple [a, b, c] k2 pt2) pos) (tPar3 i j k ta) := by
  refine ⟨fun pins s σ H D I h => ?_⟩
  rw [exec_Assign_arm]
  refine wpAny_bind (wpAny_standAt ?_)
  rw [hs]
  refine wpAny_bind (wpAny_pure ?_)
  rw [if_neg (by decide)]
  refine wpAny_bind (Tuple_ (thn (ha.run _ pins s σ H _ I h) fun us s1 ⟨vs, H1, I1, r1, q1⟩ => ?_))
  obtain ⟨v, w, u, e1, q1⟩ := q1
  subst e1
  obtain ⟨u1, u2, u3, rfl, rv, rw', ru⟩ : ∃ u1 u2 u3, us = [u1, u2, u3] ∧ RelV v u1 ∧ RelV w u2 ∧ RelV u u3 := by
    cases r1 with
    | cons p q =>
      cases q with
      | cons p' q' =>
        cases q' with
        | cons p2 q2 =>
          cases q2
          exact ⟨_, _, _, rfl, p, p', p2⟩
  refine wpAny_newObj_type ?_ (by show 3 ≤ sizeLine; decide)
  have I2 : Inv X pins σ H1 { s1 with heap := s1.heap.push { cls := .type "tuple", data := .seq [u1, u2, u3].toArray } } := I1.kept (t' := s1.toks) fun b o e => Heap.get?_push_of_some _ e
  rw [hw]
  refine wpAny_bind (wpAny_pure ?_)
  show wpAny (model X.prog X.w) X.A (do rule "assign.swapped-stores"; let items ← unpackItems (.ref s1.heap.objs.size) 3 none; assignInOrder [fun v => bindName X.env z v, fun v => bindName X.env y v, fun v => bindName X.env x v] items.reverse; pure Flow.next) _ _ _
  refine wpAny_bind (wpAny_rule (wpAny_bind (unpackItems_tuple (items := #[u1, u2, u3]) (I.ok.hd hc) (IsTup.new s1.heap _) fun h' hx' => ?_)))
  have I3 := I2.kept (h' := h') (t' := s1.toks) fun b o e => hx' b o (Nat.ne_of_lt (Heap.lt_size e)) e
  show wpAny _ _ (assignInOrder [fun v => bindName X.env z v, fun v => bindName X.env y v, fun v => bindName X.env x v] [u3, u2, u1] >>= fun _ => pure Flow.next) _ _ _
  refine wpAny_bind (assignInOrder_cons (wpAny_bindName (store_ok I3 hN hk (.inl hz) ru (fun s2 I4 => ?_) (.inr hz))))
  refine assignInOrder_cons (wpAny_bindName (store_ok I4 hN hj (.inl hy) rw' (fun s3 I5 => ?_) (.inr hy)))
  refine assignInOrder_cons (wpAny_bindName (store_ok I5 hN hi (.inl hx) rv (fun s4 I6 => assignInOrder_nil (wpAny_pure ?_)) (.inr hx)))
  exact ⟨_, H1, I6, q1⟩
def sPar3 (i j k : Nat) (f : Env → Option (List D)) : Sv := fun δ => (f δ).bind fun ds => match ds with
  | [d, e, g] => some (.nx (((δ.set k (some g)).set j (some e)).set i (some d)))
  | _ => none
theorem ds_par3 {X : Cx} {Γ : CM} {M M1 : List Mode} {E : WX} {rm : Mode} {i j k : Nat} {x y z : Str} {a b c : Expr} {ta : TA} {f : Env → Option (List D)} {px py pz pt pos : Pos} {kt k2 pt2} (hc : X.calm = true) (hN : X.N.Nodup) (ha : DAr Γ X M [a, b, c] ta f [.sh, .sh, .sh]) (hM : ((M.set k .sh).set j .sh).set i .sh = M1 := by rfl) (hi : X.N[i]? = some x := by rfl) (hj : X.N[j]? = some y := by rfl) (hk : X.N[k]? = some z := by rfl)
    (hx : X.env.scope.names.lookup x = some .local := by rfl) (hy : X.env.scope.names.lookup y = some .local := by rfl) (hz : X.env.scope.names.lookup z = some .local := by rfl) (l1 : i < M.length := by decide) (l2 : j < M.length := by decide) (l3 : k < M.length := by decide)
    (hw : swappedStores [.Tuple [.Name x px, .Name y py, .Name z pz] kt pt] (.Tuple [a, b, c] k2 pt2) X.env = pure (some [x, y, z]) := by rfl)
    (hs : swapsWithSole [.Tuple [.Name x px, .Name y py, .Name z pz] kt pt] (.Tuple [a, b, c] k2 pt2) pos.line X.env = pure false := by rfl) :
    DS Γ X E rm M (.Assign [.Tuple [.Name x px, .Name y py, .Name z pz] kt pt] (.Tuple [a, b, c] k2 pt2) pos) (tPar3 i j k ta) (sPar3 i j k f) M1 ([k] ++ ([j] ++ [i])) :=
  ⟨ps_par3 hc hN hi hj hk hx hy hz ha.pa hw hs, fun S0 H0 S H σ δ Dn o w ef kk => by
    subst hM
    obtain ⟨ds, e1, e2⟩ := bind_some ef
    match ds, e2, e1 with
    | [d, e, g], e2, e1 =>
      cases e2
      refine ha.snd S0 H0 S H σ δ _ _ w e1 fun vs S1 H1 x1 r1 => ?_
      obtain ⟨d', ds', v, vs', q1, q2, r, t⟩ := r1
      obtain ⟨e', es', v', vs2, q3, q4, r', t'⟩ := t
      obtain ⟨g', gs', v2, vs3, q5, q6, r2, t2, t3⟩ := t'
      cases q1
      cases q3
      cases q5
      subst q2 q4 q6 t3
      have w1 := (w.mono x1).store l3 (.inl rfl) (m := .sh) r2 (fun z => by cases z) fun z => by cases z
      have w2 := w1.store (i := j) (by rw [List.length_set]; exact l2) (.inl rfl) (m := .sh) r' (fun z => by cases z) fun z => by cases z
      have w3 := w2.store (i := i) (by rw [List.length_set, List.length_set]; exact l1) (.inl rfl) (m := .sh) r (fun z => by cases z) fun z => by cases z
      exact ⟨v, v', v2, rfl, kk S1 H1 _ x1.ss w3 (Fr.set.trans (Fr.set.trans Fr.set))⟩⟩
end Dl
namespace Dl
open PySem L2
section
variable {f fo fe : Ev} {δ : Env} {N : Option Int} {X : Option (List Str)} {So Y : Option Str} {ks : List Str}
def rngRT (j : Int) : Option (List Int) := (rngT j).map List.reverse
theorem itRevR (a : EvM f δ D.int N) : ItM (iRevRF f) δ D.int (N.bind rngRT) := fun r q => by
  obtain ⟨j, q1, q2⟩ := bind_eq q
  unfold rngRT at q2
  obtain ⟨ys, q3, rfl⟩ := map_some q2
  show (f δ).bind _ = _
  rw [a j q1, Option.bind_some]
  show (if -1000000 ≤ j ∧ j ≤ 1000000 then some (rngD 0 j.toNat).reverse else none) = _
  have h2 := itR (f := vC (.int j)) (δ := δ) (i := j) rfl ys q3
  have h3 : (if -1000000 ≤ j ∧ j ≤ 1000000 then some (rngD 0 j.toNat) else none) = some (ys.map D.int) := h2
  obtain ⟨c, e⟩ := ite_some h3
  rw [if_pos c, e, List.map_reverse]
theorem joinRM (a : EvM fo δ D.str So) (b : EvM fe δ (eL D.str) X) : EvM (vJoinR fo fe) δ D.str (So.bind fun s => X.bind fun xs => joinT s xs.reverse) := fun r q => by
  obtain ⟨s, q1, q2⟩ := bind_eq q
  obtain ⟨xs, q3, q4⟩ := bind_eq q2
  show (fo δ).bind _ = _
  rw [a s q1, Option.bind_some, b xs q3, Option.bind_some]
  show mJoin s [.lst (xs.map D.str).reverse] = _
  rw [← List.map_reverse]
  exact m_join s xs.reverse r q4
theorem idxKM (b : EvM fe δ D.str Y) (hk : ds = ks.map D.str := by rfl) : EvM (vIndexK (vC (.ktup ds)) fe) δ D.int (Y.bind fun y => indexT ks y) := fun r q => by
  subst hk
  obtain ⟨y, q3, q4⟩ := bind_eq q
  unfold indexT at q4
  obtain ⟨j, q5, rfl⟩ := map_some q4
  have e : vIndexK (vC (.ktup (ks.map D.str))) fe δ = (fe δ).bind fun y => opIndexK (.ktup (ks.map D.str)) y := rfl
  rw [e, b y q3, Option.bind_some]
  show (strsOf (ks.map D.str)).bind (fun xs => (xs.findIdx? fun x => decide (x = y)).map fun (j : Nat) => D.int (j : Int)) = _
  rw [strsOf_enc, Option.bind_some, q5]; rfl
theorem stPar3 {α β γ ρ : Type} {i j k : Nat} {s' : Sv} {g : ρ → Out} {e : α → D} {e2 : β → D} {e3 : γ → D} {x : α} {y : β} {z : γ} {fr : Env → Option (List D)} {K : α → β → γ → Option ρ} (h1 : fr δ = some [e x, e2 y, e3 z]) (h : ∀ v w u, St s' (((δ.set k (some (e3 u))).set j (some (e2 w))).set i (some (e v))) g (K v w u)) : St (sSeq (sPar3 i j k fr) s') δ g (lett x fun v => lett y fun w => lett z fun u => K v w u) := fun r q => by
  rw [sSeq_def]
  have : sPar3 i j k fr δ = some (.nx (((δ.set k (some (e3 z))).set j (some (e2 y))).set i (some (e x)))) := by
    show (fr δ).bind _ = _
    rw [h1]; rfl
  rw [this]
  exact h x y z r q
theorem argsP3 {α β γ : Type} {f g h : Ev} {e : α → D} {e2 : β → D} {e3 : γ → D} {x : α} {y : β} {z : γ} (a : EvP f δ e x) (b : EvP g δ e2 y) (c : EvP h δ e3 z) : aCons f (aCons g (aCons h aNil)) δ = some [e x, e2 y, e3 z] := by
  unfold EvP at *
  rw [aCons_def, a, Option.bind_some, aCons_def, b, Option.bind_some, aCons_def, c]; rfl
end
end Dl
set_option maxHeartbeats 4000000
namespace Pr
open PySem L2 Dl
def top (i : Nat) : Stmt := PySem.Challenge.pw_playboard_k11_shown_and_read.main.body.getD i (.Pass ⟨0, 0, 0, 0⟩)
noncomputable section
/-- is_whole -/
abbrev s_is_whole : Stmt := (top 14)
theorem sc_is_whole : FnScope ["thing"] ["thing"] (defScope s_is_whole) := ⟨rfl, rfl, rfl, by decide +kernel, rfl, by decide +kernel, by decide +kernel⟩
def sv_is_whole : Sv := (sRet (vAnd (vC1 opIsi (aCons (vVar 0) (aCons (vC (.ty "int")) aNil))) (vNot (vC1 opIsi (aCons (vVar 0) (aCons (vC (.ty "bool")) aNil))))))
def den_is_whole : List D → Option D := denOf 1 1 .sh sv_is_whole
/-- is_letter -/
abbrev s_is_letter : Stmt := (top 15)
theorem sc_is_letter : FnScope ["thing"] ["thing"] (defScope s_is_letter) := ⟨rfl, rfl, rfl, by decide +kernel, rfl, by decide +kernel, by decide +kernel⟩
def sv_is_letter : Sv := (sRet (vAnd (vC1 opIsi (aCons (vVar 0) (aCons (vC (.ty "str")) aNil))) (vAnd (v2 opEq (vC1 opLen (aCons (vVar 0) aNil)) (vC (.int 1))) (v2 opIn (vVar 0) (vC (.str "abcdefghijklmnopqrstuvwxyz"))))))
def den_is_letter : List D → Option D := denOf 1 1 .sh sv_is_letter
/-- is_among -/
abbrev s_is_among : Stmt := (top 16)
theorem sc_is_among : FnScope ["thing", "least", "most"] ["thing", "least", "most"] (defScope s_is_among) := ⟨rfl, rfl, rfl, by decide +kernel, rfl, by decide +kernel, by decide +kernel⟩
def sv_is_among : Sv := (sRet (vAnd (vC1 den_is_whole (aCons (vVar 0) aNil)) (vChain opLe opLe (vVar 1) (vVar 0) (vVar 2))))
def den_is_among : List D → Option D := denOf 3 3 .sh sv_is_among
/-- kind_of -/
abbrev s_kind_of : Stmt := (top 20)
theorem sc_kind_of : FnScope ["sign"] ["sign"] (defScope s_kind_of) := ⟨rfl, rfl, rfl, by decide +kernel, rfl, by decide +kernel, by decide +kernel⟩
def sv_kind_of : Sv := (sSeq (sIf (bOr (vTst (v2 opEq (vVar 0) (vC (.str ".")))) (vTst (v2 opEq (vVar 0) (vC (.str "#"))))) (sRet (vC .non)) sNext) (sRet (vM0 mLower (vVar 0))))
def den_kind_of : List D → Option D := denOf 1 1 .sh sv_kind_of
/-- shown -/
abbrev s_shown : Stmt := (top 25)
theorem sc_shown : FnScope ["game", "place", "row", "side", "wide", "lines", "at"] ["game", "place"] (defScope s_shown) := ⟨rfl, rfl, rfl, by decide +kernel, rfl, by decide +kernel, by decide +kernel⟩
def b0_shown : Sv := (sSeq (sApp 5 (vSl opSl (vVar 2) (vPart (v2 opMulI (vVar 6) (vVar 4))) (vPart (v2 opAdd (v2 opMulI (vVar 6) (vVar 4)) (vVar 4))))) (sWip [6] sNext))
def sv_shown : Sv := (sSeq (sAsg (vVar 1) (hTup 2 (hCons (hName 2) (hCons (hName 3) hNil)))) (sSeq (sSet 4 (vFld "wide" (vFld "board" (vVar 0)))) (sSeq (sSet 5 (vLst aNil)) (sWip [1] (sSeq (sFor (iRevRF (vFld "high" (vFld "board" (vVar 0)))) (hName 6) b0_shown) (sRet (v2 opCat (vVar 5) (vLst (aCons (v2 opIx (vC (.ktup [.str "first", .str "second"])) (vVar 3)) aNil)))))))))
def den_shown : List D → Option D := denOf 7 2 .ow sv_shown
/-- need -/
abbrev s_need : Stmt := (top 26)
theorem sc_need : FnScope ["good"] ["good"] (defScope s_need) := ⟨rfl, rfl, rfl, by decide +kernel, rfl, by decide +kernel, by decide +kernel⟩
def sv_need : Sv := (sSeq (sIf (bNot (vTst (vVar 0))) (sRaise "BadPlace") sNext) (sWip [0] sNext))
def den_need : List D → Option Res := denX 1 1 .sh sv_need
/-- are_holes -/
abbrev s_are_holes : Stmt := (top 30)
theorem sc_are_holes : FnScope ["things", "many", "thing"] ["things", "many"] (defScope s_are_holes) := ⟨rfl, rfl, rfl, by decide +kernel, rfl, by decide +kernel, by decide +kernel⟩
def b0_are_holes : Sv := (sSeq (sIf (bNot (vTst (vC1 den_is_among (aCons (vVar 2) (aCons (vC (.int 0)) (aCons (v2 opSub (vVar 1) (vC (.int 1))) aNil)))))) (sRet (vC (.bl false))) sNext) (sWip [2] sNext))
def sv_are_holes : Sv := (sSeq (sFor (iAnyF (vVar 0)) (hName 2) b0_are_holes) (sRet (vAnd (v2 opEq (vLenSet (vVar 0)) (vC1 opLen (aCons (vVar 0) aNil))) (v2 opLt (vC1 opLen (aCons (vVar 0) aNil)) (vVar 1)))))
def den_are_holes : List D → Option D := denOf 3 2 .sh sv_are_holes
/-- Board.__init__ -/
abbrev s_Board__init_ : Stmt := (inClass (top 31) 0)
theorem sc_Board__init_ : FnScope ["self", "wide", "high", "holes"] ["self", "wide", "high", "holes"] (defScope s_Board__init_) := ⟨rfl, rfl, rfl, by decide +kernel, rfl, by decide +kernel, by decide +kernel⟩
def sv_Board__init_ : Sv := (sSeq (sIf (bOr (bNot (vTst (vC1 den_is_among (aCons (vVar 1) (aCons (vC (.int 1)) (aCons (vC (.int (8))) aNil)))))) (bNot (vTst (vC1 den_is_among (aCons (vVar 2) (aCons (vC (.int 1)) (aCons (vC (.int (8))) aNil))))))) sNo sNext) (sSeq (sIf (bOr (bNot (vTst (vC1 opIsi (aCons (vVar 3) (aCons (vC (.ty "list")) aNil))))) (bNot (vTst (vC1 den_are_holes (aCons (vVar 3) (aCons (v2 opMulI (vVar 1) (vVar 2)) aNil)))))) sNo sNext) (sSeq (sFldS 0 "wide" (vVar 1)) (sSeq (sFldS 0 "high" (vVar 2)) (sSeq (sFldS 0 "holes" (vC1 opSorted (aCons (vVar 3) aNil))) (sWip [1, 2, 3] sNext))))))
def den_Board__init_ : Addr → List D → Option D := denI "Board" 4 4 sv_Board__init_
/-- Board.has -/
abbrev s_Board_has : Stmt := (inClass (top 31) 1)
theorem sc_Board_has : FnScope ["self", "square"] ["self", "square"] (defScope s_Board_has) := ⟨rfl, rfl, rfl, by decide +kernel, rfl, by decide +kernel, by decide +kernel⟩
def sv_Board_has : Sv := (sRet (vAnd (vC1 den_is_among (aCons (vVar 1) (aCons (vC (.int 0)) (aCons (v2 opSub (v2 opMulI (vFld "wide" (vVar 0)) (vFld "high" (vVar 0))) (vC (.int 1))) aNil)))) (v2 opNin (vVar 1) (vFld "holes" (vVar 0)))))
def den_Board_has : List D → Option D := denOf 2 2 .sh sv_Board_has
/-- is_sign -/
abbrev s_is_sign : Stmt := (top 21)
theorem sc_is_sign : FnScope ["game", "square", "sign"] ["game", "square", "sign"] (defScope s_is_sign) := ⟨rfl, rfl, rfl, by decide +kernel, rfl, by decide +kernel, by decide +kernel⟩
def sv_is_sign : Sv := (sSeq (sIf (bNot (vTst (vMeth "Board" "has" den_Board_has (vFld "board" (vVar 0)) (aCons (vVar 1) aNil)))) (sRet (v2 opEq (vVar 2) (vC (.str "#")))) sNext) (sRet (vOr (v2 opEq (vVar 2) (vC (.str "."))) (v2 opIn (vC1 den_kind_of (aCons (vVar 2) aNil)) (vFld "kinds" (vVar 0))))))
def den_is_sign : List D → Option D := denOf 3 3 .sh sv_is_sign
/-- is_place -/
abbrev s_is_place : Stmt := (top 22)
theorem sc_is_place : FnScope ["game", "thing", "row", "side", "square", "sign"] ["game", "thing"] (defScope s_is_place) := ⟨rfl, rfl, rfl, by decide +kernel, rfl, by decide +kernel, by decide +kernel⟩
def b0_is_place : Sv := (sSeq (sIf (bNot (vTst (vC1 den_is_sign (aCons (vVar 0) (aCons (vVar 4) (aCons (vVar 5) aNil)))))) (sRet (vC (.bl false))) sNext) (sWip [4, 5] sNext))
def sv_is_place : Sv := (sSeq (sIf (bOr (bNot (vTst (vC1 opIsi (aCons (vVar 1) (aCons (vC (.ty "tuple")) aNil))))) (bOr (vTst (v2 opNe (vC1 opLen (aCons (vVar 1) aNil)) (vC (.int 2)))) (bNot (vTst (vC1 opIsi (aCons (v2 opIx (vVar 1) (vC (.int 0))) (aCons (vC (.ty "str")) aNil))))))) (sRet (vC (.bl false))) sNext) (sSeq (sAsg (vVar 1) (hTup 2 (hCons (hName 2) (hCons (hName 3) hNil)))) (sSeq (sIf (bOr (vTst (v2 opNe (vC1 opLen (aCons (vVar 2) aNil)) (v2 opMulI (vFld "wide" (vFld "board" (vVar 0))) (vFld "high" (vFld "board" (vVar 0)))))) (bNot (vTst (vC1 den_is_among (aCons (vVar 3) (aCons (vC (.int 0)) (aCons (vC (.int 1)) aNil))))))) (sRet (vC (.bl false))) sNext) (sWip [1, 3] (sSeq (sFor (iEnumerateF (aCons (vVar 2) aNil)) (hTup 2 (hCons (hName 4) (hCons (hName 5) hNil))) b0_is_place) (sRet (vC (.bl true))))))))
def den_is_place : List D → Option D := denOf 6 2 .sh sv_is_place
/-- place_of -/
abbrev s_place_of : Stmt := (top 27)
theorem sc_place_of : FnScope ["game", "lines", "line", "place"] ["game", "lines"] (defScope s_place_of) := ⟨rfl, rfl, rfl, by decide +kernel, rfl, by decide +kernel, by decide +kernel⟩
def b0_place_of : Sv := (sSeq (sX (xC1 den_need (aCons (v2 opEq (vC1 opLen (aCons (vVar 2) aNil)) (vFld "wide" (vFld "board" (vVar 0)))) aNil)) (sExpr (okV (xC1 den_need (aCons (v2 opEq (vC1 opLen (aCons (vVar 2) aNil)) (vFld "wide" (vFld "board" (vVar 0)))) aNil))))) (sWip [2] sNext))
def sv_place_of : Sv := (sSeq (sX (xC1 den_need (aCons (vAnd (v2 opEq (vC1 opLen (aCons (vVar 1) aNil)) (v2 opAdd (vFld "high" (vFld "board" (vVar 0))) (vC (.int 1)))) (v2 opIn (v2 opIx (vVar 1) (vNeg (vC (.int 1)))) (vC (.ktup [.str "first", .str "second"])))) aNil)) (sExpr (okV (xC1 den_need (aCons (vAnd (v2 opEq (vC1 opLen (aCons (vVar 1) aNil)) (v2 opAdd (vFld "high" (vFld "board" (vVar 0))) (vC (.int 1)))) (v2 opIn (v2 opIx (vVar 1) (vNeg (vC (.int 1)))) (vC (.ktup [.str "first", .str "second"])))) aNil))))) (sSeq (sFor (iAnyF (vSl opSl (vVar 1) (fun _ => some none) (vPart (vNeg (vC (.int 1)))))) (hName 2) b0_place_of) (sSeq (sSet 3 (vTup (aCons (vJoinR (vC (.str "")) (vSl opSl (vVar 1) (fun _ => some none) (vPart (vNeg (vC (.int 1)))))) (aCons (vIndexK (vC (.ktup [.str "first", .str "second"])) (v2 opIx (vVar 1) (vNeg (vC (.int 1))))) aNil)))) (sSeq (sX (xC1 den_need (aCons (vC1 den_is_place (aCons (vVar 0) (aCons (vVar 3) aNil))) aNil)) (sExpr (okV (xC1 den_need (aCons (vC1 den_is_place (aCons (vVar 0) (aCons (vVar 3) aNil))) aNil))))) (sRet (vVar 3))))))
def den_place_of : List D → Option Res := denX 4 2 .sh sv_place_of
/-- far_of -/
abbrev s_far_of : Stmt := (top 39)
theorem sc_far_of : FnScope ["sort"] ["sort"] (defScope s_far_of) := ⟨rfl, rfl, rfl, by decide +kernel, rfl, by decide +kernel, by decide +kernel⟩
def sv_far_of : Sv := (sSeq (sIf (vTst (v2 opEq (vVar 0) (vC (.str "leap")))) (sRet (vC (.int 3))) sNext) (sRet (vC (.int 1))))
def den_far_of : List D → Option D := denOf 1 1 .sh sv_far_of
/-- is_rule -/
abbrev s_is_rule : Stmt := (top 40)
theorem sc_is_rule : FnScope ["thing", "kinds", "far"] ["thing", "kinds"] (defScope s_is_rule) := ⟨rfl, rfl, rfl, by decide +kernel, rfl, by decide +kernel, by decide +kernel⟩
def sv_is_rule : Sv := (sSeq (sIf (bOr (bNot (vTst (vC1 opIsi (aCons (vVar 0) (aCons (vC (.ty "tuple")) aNil))))) (vTst (v2 opNe (vC1 opLen (aCons (vVar 0) aNil)) (vC (.int 5))))) (sRet (vC (.bl false))) sNext) (sSeq (sIf (bOr (vTst (v2 opNin (v2 opIx (vVar 0) (vC (.int 0))) (vVar 1))) (bOr (vTst (v2 opNin (v2 opIx (vVar 0) (vC (.int 1))) (vC (.ktup [.str "leap", .str "slide", .str "jump"])))) (vTst (v2 opNin (v2 opIx (vVar 0) (vC (.int 2))) (vC (.ktup [.str "go", .str "hit", .str "any"])))))) (sRet (vC (.bl false))) sNext) (sSeq (sIf (bAnd (vTst (v2 opEq (v2 opIx (vVar 0) (vC (.int 1))) (vC (.str "jump")))) (vTst (v2 opNe (v2 opIx (vVar 0) (vC (.int 2))) (vC (.str "hit"))))) (sRet (vC (.bl false))) sNext) (sSeq (sSet 2 (vC1 den_far_of (aCons (v2 opIx (vVar 0) (vC (.int 1))) aNil))) (sSeq (sIf (bOr (bNot (vTst (vC1 den_is_among (aCons (v2 opIx (vVar 0) (vC (.int 3))) (aCons (vNeg (vVar 2)) (aCons (vVar 2) aNil)))))) (bNot (vTst (vC1 den_is_among (aCons (v2 opIx (vVar 0) (vC (.int 4))) (aCons (vNeg (vVar 2)) (aCons (vVar 2) aNil))))))) (sRet (vC (.bl false))) sNext) (sRet (vOr (v2 opNe (v2 opIx (vVar 0) (vC (.int 3))) (vC (.int 0))) (v2 opNe (v2 opIx (vVar 0) (vC (.int 4))) (vC (.int 0))))))))))
def den_is_rule : List D → Option D := denOf 3 2 .sh sv_is_rule
/-- are_pairs -/
abbrev s_are_pairs : Stmt := (top 41)
theorem sc_are_pairs : FnScope ["thing", "pair"] ["thing"] (defScope s_are_pairs) := ⟨rfl, rfl, rfl, by decide +kernel, rfl, by decide +kernel, by decide +kernel⟩
def b0_are_pairs : Sv := (sSeq (sIf (bOr (bNot (vTst (vC1 opIsi (aCons (vVar 1) (aCons (vC (.ty "tuple")) aNil))))) (vTst (v2 opNe (vC1 opLen (aCons (vVar 1) aNil)) (vC (.int 2))))) (sRet (vC (.bl false))) sNext) (sWip [1] sNext))
def sv_are_pairs : Sv := (sSeq (sIf (bOr (bNot (vTst (vC1 opIsi (aCons (vVar 0) (aCons (vC (.ty "list")) aNil))))) (vTst (v2 opGt (vC1 opLen (aCons (vVar 0) aNil)) (vC (.int (6)))))) (sRet (vC (.bl false))) sNext) (sSeq (sFor (iAnyF (vVar 0)) (hName 1) b0_are_pairs) (sRet (vC (.bl true)))))
def den_are_pairs : List D → Option D := denOf 2 1 .sh sv_are_pairs
/-- is_turns -/
abbrev s_is_turns : Stmt := (top 42)
theorem sc_is_turns : FnScope ["thing", "kinds", "firsts", "pair"] ["thing", "kinds"] (defScope s_is_turns) := ⟨rfl, rfl, rfl, by decide +kernel, rfl, by decide +kernel, by decide +kernel⟩
def b0_is_turns : Sv := (sSeq (sIf (vTst (v2 opIn (v2 opIx (vVar 3) (vC (.int 1))) (vVar 2))) (sRet (vC (.bl false))) sNext) (sWip [3] sNext))
def b1_is_turns : Sv := (sSeq (sIf (bOr (vTst (v2 opNin (v2 opIx (vVar 3) (vC (.int 0))) (vVar 1))) (bOr (vTst (v2 opNin (v2 opIx (vVar 3) (vC (.int 1))) (vVar 1))) (bOr (vTst (v2 opEq (v2 opIx (vVar 3) (vC (.int 0))) (v2 opIx (vVar 3) (vC (.int 1))))) (vTst (v2 opIn (v2 opIx (vVar 3) (vC (.int 0))) (vVar 2)))))) (sRet (vC (.bl false))) sNext) (sSeq (sApp 2 (v2 opIx (vVar 3) (vC (.int 0)))) (sWip [3] sNext)))
def sv_is_turns : Sv := (sSeq (sIf (bNot (vTst (vC1 den_are_pairs (aCons (vVar 0) aNil)))) (sRet (vC (.bl false))) sNext) (sSeq (sSet 2 (vLst aNil)) (sSeq (sFor (iAnyF (vVar 0)) (hName 3) b1_is_turns) (sWip [1] (sSeq (sFor (iAnyF (vVar 0)) (hName 3) b0_is_turns) (sRet (vC (.bl true))))))))
def den_is_turns : List D → Option D := denOf 4 2 .sh sv_is_turns
/-- is_ends -/
abbrev s_is_ends : Stmt := (top 43)
theorem sc_is_ends : FnScope ["thing", "kinds", "pair"] ["thing", "kinds"] (defScope s_is_ends) := ⟨rfl, rfl, rfl, by decide +kernel, rfl, by decide +kernel, by decide +kernel⟩
def b0_is_ends : Sv := (sSeq (sIf (bOr (vTst (v2 opNin (v2 opIx (vVar 2) (vC (.int 0))) (vC (.ktup [.str "without", .str "home"])))) (vTst (v2 opNin (v2 opIx (vVar 2) (vC (.int 1))) (vVar 1)))) (sRet (vC (.bl false))) sNext) (sWip [2] sNext))
def sv_is_ends : Sv := (sSeq (sIf (bNot (vTst (vC1 den_are_pairs (aCons (vVar 0) aNil)))) (sRet (vC (.bl false))) sNext) (sSeq (sFor (iAnyF (vVar 0)) (hName 2) b0_is_ends) (sRet (vC (.bl true)))))
def den_is_ends : List D → Option D := denOf 3 2 .sh sv_is_ends
/-- are_kinds -/
abbrev s_are_kinds : Stmt := (top 46)
theorem sc_are_kinds : FnScope ["thing", "kind"] ["thing"] (defScope s_are_kinds) := ⟨rfl, rfl, rfl, by decide +kernel, rfl, by decide +kernel, by decide +kernel⟩
def b0_are_kinds : Sv := (sSeq (sIf (bNot (vTst (vC1 den_is_letter (aCons (vVar 1) aNil)))) (sRet (vC (.bl false))) sNext) (sWip [1] sNext))
def sv_are_kinds : Sv := (sSeq (sIf (bOr (bNot (vTst (vC1 opIsi (aCons (vVar 0) (aCons (vC (.ty "list")) aNil))))) (bNot (vTst (vChain opLe opLe (vC (.int 1)) (vC1 opLen (aCons (vVar 0) aNil)) (vC (.int (6))))))) (sRet (vC (.bl false))) sNext) (sSeq (sFor (iAnyF (vVar 0)) (hName 1) b0_are_kinds) (sRet (v2 opEq (vLenSet (vVar 0)) (vC1 opLen (aCons (vVar 0) aNil))))))
def den_are_kinds : List D → Option D := denOf 2 1 .sh sv_are_kinds
/-- are_rules -/
abbrev s_are_rules : Stmt := (top 47)
theorem sc_are_rules : FnScope ["thing", "kinds", "rule"] ["thing", "kinds"] (defScope s_are_rules) := ⟨rfl, rfl, rfl, by decide +kernel, rfl, by decide +kernel, by decide +kernel⟩
def b0_are_rules : Sv := (sSeq (sIf (bNot (vTst (vC1 den_is_rule (aCons (vVar 2) (aCons (vVar 1) aNil))))) (sRet (vC (.bl false))) sNext) (sWip [2] sNext))
def sv_are_rules : Sv := (sSeq (sIf (bOr (bNot (vTst (vC1 opIsi (aCons (vVar 0) (aCons (vC (.ty "list")) aNil))))) (vTst (v2 opGt (vC1 opLen (aCons (vVar 0) aNil)) (vC (.int (24)))))) (sRet (vC (.bl false))) sNext) (sSeq (sFor (iAnyF (vVar 0)) (hName 2) b0_are_rules) (sRet (vC (.bl true)))))
def den_are_rules : List D → Option D := denOf 3 2 .sh sv_are_rules
/-- Game.__init__ -/
abbrev s_Game__init_ : Stmt := (inClass (top 48) 0)
theorem sc_Game__init_ : FnScope ["self", "board", "kinds", "rules", "turns", "ends", "stuck"] ["self", "board", "kinds", "rules", "turns", "ends", "stuck"] (defScope s_Game__init_) := ⟨rfl, rfl, rfl, by decide +kernel, rfl, by decide +kernel, by decide +kernel⟩
def sv_Game__init_ : Sv := (sSeq (sIf (bOr (bNot (vTst (vC1 den_are_kinds (aCons (vVar 2) aNil)))) (bNot (vTst (vC1 den_are_rules (aCons (vVar 3) (aCons (vVar 2) aNil)))))) sNo sNext) (sSeq (sIf (bOr (bNot (vTst (vC1 den_is_turns (aCons (vVar 4) (aCons (vVar 2) aNil))))) (bOr (bNot (vTst (vC1 den_is_ends (aCons (vVar 5) (aCons (vVar 2) aNil))))) (vTst (v2 opNin (vVar 6) (vC (.ktup [.str "lost", .str "even", .str "won"])))))) sNo sNext) (sSeq (sFldS 0 "board" (vVar 1)) (sSeq (sFldS 0 "kinds" (vC1 opList (aCons (vVar 2) aNil))) (sSeq (sFldS 0 "rules" (vC1 opList (aCons (vVar 3) aNil))) (sSeq (sFldS 0 "turns" (vC1 opList (aCons (vVar 4) aNil))) (sSeq (sFldS 0 "ends" (vC1 opList (aCons (vVar 5) aNil))) (sSeq (sFldS 0 "stuck" (vVar 6)) (sWip [1, 2, 3, 4, 5, 6] sNext)))))))))
def den_Game__init_ : Addr → List D → Option D := denI "Game" 7 7 sv_Game__init_
/-- _law_cell_at -/
abbrev s_law_cell_at : Stmt := (top 50)
theorem sc_law_cell_at : FnScope ["_law_script", "_law_k"] ["_law_script", "_law_k"] (defScope s_law_cell_at) := ⟨rfl, rfl, rfl, by decide +kernel, rfl, by decide +kernel, by decide +kernel⟩
def sv_law_cell_at : Sv := (sSeq (sIf (vTst (v2 opLt (vVar 1) (vC1 opLen (aCons (vVar 0) aNil)))) (sRet (v2 opIx (vVar 0) (vVar 1))) sNext) (sRet (vC (.int 0))))
def den_law_cell_at : List D → Option D := denOf 2 2 .sh sv_law_cell_at
/-- _law_mixed -/
abbrev s_law_mixed : Stmt := (top 51)
theorem sc_law_mixed : FnScope ["_law_cell", "_law_k"] ["_law_cell", "_law_k"] (defScope s_law_mixed) := ⟨rfl, rfl, rfl, by decide +kernel, rfl, by decide +kernel, by decide +kernel⟩
def sv_law_mixed : Sv := (sRet (v2 opMod (v2 opMulI (v2 opAdd (v2 opAdd (vVar 0) (v2 opMulI (vC (.int 7919)) (vVar 1))) (vC (.int 3))) (vC (.int 48271))) (vC (.int 2147483647))))
def den_law_mixed : List D → Option D := denOf 2 2 .sh sv_law_mixed
/-- _law_whole -/
abbrev s_law_whole : Stmt := (top 52)
theorem sc_law_whole : FnScope ["_law_thing"] ["_law_thing"] (defScope s_law_whole) := ⟨rfl, rfl, rfl, by decide +kernel, rfl, by decide +kernel, by decide +kernel⟩
def sv_law_whole : Sv := (sRet (vAnd (vC1 opIsi (aCons (vVar 0) (aCons (vC (.ty "int")) aNil))) (vNot (vC1 opIsi (aCons (vVar 0) (aCons (vC (.ty "bool")) aNil))))))
def den_law_whole : List D → Option D := denOf 1 1 .sh sv_law_whole
/-- _law_board -/
abbrev s_law_board : Stmt := (top 53)
theorem sc_law_board : FnScope ["_law_script", "_law_cell", "_law_wide", "_law_high", "_law_holes", "_law_k", "_law_hole"] ["_law_script"] (defScope s_law_board) := ⟨rfl, rfl, rfl, by decide +kernel, rfl, by decide +kernel, by decide +kernel⟩
def b0_law_board : Sv := (sSeq (sSet 6 (v2 opMod (vC1 den_law_mixed (aCons (v2 opDiv (vVar 1) (vC (.int 4))) (aCons (vVar 5) aNil))) (v2 opMulI (vVar 2) (vVar 3)))) (sSeq (sIf (bAnd (vTst (v2 opNin (vVar 6) (vVar 4))) (vTst (v2 opLt (v2 opAdd (vC1 opLen (aCons (vVar 4) aNil)) (vC (.int 1))) (v2 opMulI (vVar 2) (vVar 3))))) (sSeq (sApp 4 (vVar 6)) (sWip [5, 6] sNext)) (sWip [5, 6] sNext)) sNext))
def sv_law_board : Sv := (sSeq (sSet 1 (vC1 den_law_cell_at (aCons (vVar 0) (aCons (vC (.int 0)) aNil)))) (sSeq (sSet 2 (v2 opAdd (vC (.int 1)) (v2 opMod (vVar 1) (vC (.int 4))))) (sSeq (sSet 3 (v2 opAdd (vC (.int 1)) (v2 opMod (v2 opDiv (vVar 1) (vC (.int 4))) (vC (.int 4))))) (sSeq (sIf (vTst (v2 opEq (v2 opMod (v2 opDiv (vVar 1) (vC (.int 16))) (vC (.int 8))) (vC (.int 5)))) (sSeq (sSet 2 (v2 opAdd (vC (.int 1)) (v2 opMod (v2 opDiv (vVar 1) (vC (.int 128))) (vC (.int 8))))) (sSeq (sSet 3 (v2 opAdd (vC (.int 1)) (v2 opMod (v2 opDiv (vVar 1) (vC (.int 1024))) (vC (.int 8))))) (sWip [1] sNext))) (sWip [1] sNext)) (sSeq (sSet 1 (vC1 den_law_cell_at (aCons (vVar 0) (aCons (vC (.int 1)) aNil)))) (sSeq (sSet 4 (vLst aNil)) (sWip [0] (sSeq (sFor (iRngF1 (aCons (v2 opIx (vLst (aCons (vC (.int 0)) (aCons (vC (.int 0)) (aCons (vC (.int 1)) (aCons (vC (.int 2)) aNil))))) (v2 opMod (vVar 1) (vC (.int 4)))) aNil)) (hName 5) b0_law_board) (sRet (vTup (aCons (vVar 2) (aCons (vVar 3) (aCons (vVar 4) aNil)))))))))))))
def den_law_board : List D → Option D := denOf 7 1 .sh sv_law_board
/-- _law_kinds -/
abbrev s_law_kinds : Stmt := (top 54)
theorem sc_law_kinds : FnScope ["_law_cell", "_law_letters", "_law_step", "_law_k"] ["_law_cell"] (defScope s_law_kinds) := ⟨rfl, rfl, rfl, by decide +kernel, rfl, by decide +kernel, by decide +kernel⟩
def e0_law_kinds : Ev := (v2 opIx (vVar 1) (v2 opMod (v2 opAdd (v2 opDiv (vVar 0) (vC (.int 8))) (v2 opMulI (vVar 2) (vVar 3))) (vC (.int 26))))
def sv_law_kinds : Sv := (sSeq (sSet 1 (vC (.str "abcdefghijklmnopqrstuvwxyz"))) (sSeq (sSet 2 (v2 opIx (vLst (aCons (vC (.int 1)) (aCons (vC (.int 3)) (aCons (vC (.int 5)) (aCons (vC (.int 7)) (aCons (vC (.int 9)) (aCons (vC (.int 11)) aNil))))))) (v2 opMod (v2 opDiv (vVar 0) (vC (.int 208))) (vC (.int 6))))) (sRet (vLc (iRngF1 (aCons (v2 opIx (vLst (aCons (vC (.int 1)) (aCons (vC (.int 2)) (aCons (vC (.int 2)) (aCons (vC (.int 3)) (aCons (vC (.int 3)) (aCons (vC (.int 1)) (aCons (vC (.int 6)) (aCons (vC (.int 4)) aNil))))))))) (v2 opMod (vVar 0) (vC (.int 8)))) aNil)) (hName 3) tsYes e0_law_kinds [3]))))
def den_law_kinds : List D → Option D := denOf 4 1 .ow sv_law_kinds
/-- _law_row -/
abbrev s_law_row : Stmt := (top 55)
theorem sc_law_row : FnScope ["_law_script", "_law_game", "_law_start", "_law_size", "_law_free", "_law_signs", "_law_cell", "_law_cells", "_law_spots", "_law_k", "_law_square", "_law_more", "_law_kind"] ["_law_script", "_law_game", "_law_start"] (defScope s_law_row) := ⟨rfl, rfl, rfl, by decide +kernel, rfl, by decide +kernel, by decide +kernel⟩
def t0_law_row : Dl.Env → Option Bool := (vTst (v2 opNin (vVar 10) (vFld "holes" (vFld "board" (vVar 1)))))
def e1_law_row : Ev := (v2 opIx (vC (.str ".#")) (vC1 opInt (aCons (v2 opIn (vVar 10) (vFld "holes" (vFld "board" (vVar 1)))) aNil)))
def e2_law_row : Ev := (vC1 den_law_mixed (aCons (vC1 den_law_cell_at (aCons (vVar 0) (aCons (v2 opAdd (v2 opAdd (vVar 2) (vC (.int 1))) (vVar 9)) aNil))) (aCons (vVar 9) aNil)))
def e3_law_row : Ev := (v2 opIx (vVar 4) (v2 opMod (vVar 11) (vC1 opLen (aCons (vVar 4) aNil))))
def b4_law_row : Sv := (sSeq (sSet 11 (v2 opAdd (v2 opIx (vVar 7) (v2 opMod (vVar 9) (vC (.int 6)))) (v2 opMulI (vC (.int 4099)) (v2 opDiv (vVar 9) (vC (.int 6)))))) (sSeq (sSet 12 (v2 opIx (vFld "kinds" (vVar 1)) (v2 opMod (v2 opDiv (vVar 11) (vC (.int 64))) (vC1 opLen (aCons (vFld "kinds" (vVar 1)) aNil))))) (sSeq (sPut 5 (vVar 10) (v2 opIx (vLst (aCons (vM0 mUpper (vVar 12)) (aCons (vVar 12) aNil))) (v2 opMod (v2 opDiv (vVar 11) (vC (.int 512))) (vC (.int 2))))) (sWip [9, 10, 11, 12] sNext))))
def sv_law_row : Sv := (sSeq (sSet 3 (v2 opMulI (vFld "wide" (vFld "board" (vVar 1))) (vFld "high" (vFld "board" (vVar 1))))) (sSeq (sSet 4 (vLc (iRngF1 (aCons (vVar 3) aNil)) (hName 10) t0_law_row (vVar 10) [10])) (sSeq (sSet 5 (vLc (iRngF1 (aCons (vVar 3) aNil)) (hName 10) tsYes e1_law_row [10])) (sSeq (sSet 6 (vC1 den_law_cell_at (aCons (vVar 0) (aCons (vVar 2) aNil)))) (sSeq (sSet 7 (vLc (iRngF1 (aCons (vC (.int 6)) aNil)) (hName 9) tsYes e2_law_row [9])) (sSeq (sSet 8 (vLc (iAnyF (vSl opSl (vVar 7) (fun _ => some none) (vPart (v2 opAdd (vC (.int 1)) (v2 opMod (vVar 6) (vC (.int 6))))))) (hName 11) tsYes e3_law_row [11])) (sSeq (sIf (vTst (v2 opEq (v2 opMod (v2 opDiv (vVar 6) (vC (.int 6))) (vC (.int 8))) (vC (.int 1)))) (sSeq (sSet 8 (vSl opSl (vVar 4) (fun _ => some none) (vPart (vC (.int 12))))) (sWip [0, 2, 3, 4] sNext)) (sWip [0, 2, 3, 4] sNext)) (sSeq (sIf (vTst (v2 opEq (v2 opMod (v2 opDiv (vVar 6) (vC (.int 6))) (vC (.int 9))) (vC (.int 2)))) (sSeq (sSet 8 (vLst aNil)) (sWip [6] sNext)) (sWip [6] sNext)) (sSeq (sFor (iEnumerateF (aCons (vVar 8) aNil)) (hTup 2 (hCons (hName 9) (hCons (hName 10) hNil))) b4_law_row) (sRet (vM mJoin (vC (.str "")) (aCons (vVar 5) aNil))))))))))))
def den_law_row : List D → Option D := denOf 13 3 .sh sv_law_row
/-- _law_lines -/
abbrev s_law_lines : Stmt := (top 56)
theorem sc_law_lines : FnScope ["_law_place", "_law_wide", "_law_high", "_law_lines_here", "_law_k", "_law_begin"] ["_law_place", "_law_wide", "_law_high"] (defScope s_law_lines) := ⟨rfl, rfl, rfl, by decide +kernel, rfl, by decide +kernel, by decide +kernel⟩
def b0_law_lines : Sv := (sSeq (sSet 5 (v2 opMulI (v2 opSub (v2 opSub (vVar 2) (vC (.int 1))) (vVar 4)) (vVar 1))) (sSeq (sApp 3 (vSl opSl (v2 opIx (vVar 0) (vC (.int 0))) (vPart (vVar 5)) (vPart (v2 opAdd (vVar 5) (vVar 1))))) (sWip [4, 5] sNext)))
def sv_law_lines : Sv := (sSeq (sSet 3 (vLst aNil)) (sSeq (sFor (iRngF1 (aCons (vVar 2) aNil)) (hName 4) b0_law_lines) (sRet (v2 opCat (vVar 3) (vLst (aCons (v2 opIx (vLst (aCons (vC (.str "first")) (aCons (vC (.str "second")) aNil))) (v2 opIx (vVar 0) (vC (.int 1)))) aNil))))))
def den_law_lines : List D → Option D := denOf 6 3 .ow sv_law_lines
/-- _law_line_changed -/
abbrev s_law_line_changed : Stmt := (top 57)
theorem sc_law_line_changed : FnScope ["_law_lines_here", "_law_cell", "_law_kinds_here", "_law_at", "_law_one", "_law_place", "_law_signs", "_law_sign"] ["_law_lines_here", "_law_cell", "_law_kinds_here"] (defScope s_law_line_changed) := ⟨rfl, rfl, rfl, by decide +kernel, rfl, by decide +kernel, by decide +kernel⟩
def sv_law_line_changed : Sv := (sSeq (sSet 3 (v2 opMod (v2 opDiv (vVar 1) (vC (.int 8))) (vC1 opLen (aCons (vVar 0) aNil)))) (sSeq (sSet 4 (v2 opIx (vVar 0) (vVar 3))) (sSeq (sSet 5 (v2 opMod (v2 opDiv (vVar 1) (vC (.int 64))) (v2 opAdd (vC1 opLen (aCons (vVar 4) aNil)) (vC (.int 1))))) (sSeq (sSet 6 (v2 opAdd (v2 opAdd (v2 opAdd (vC (.str ".#")) (vM mJoin (vC (.str "")) (aCons (vVar 2) aNil))) (vM0 mUpper (vM mJoin (vC (.str "")) (aCons (vVar 2) aNil)))) (vC (.str "Qz 1first")))) (sSeq (sSet 7 (v2 opIx (vVar 6) (v2 opMod (v2 opDiv (vVar 1) (vC (.int 1024))) (vC1 opLen (aCons (vVar 6) aNil))))) (sSeq (sSet 4 (vLst (aCons (v2 opAdd (v2 opAdd (vSl opSl (vVar 4) (fun _ => some none) (vPart (vVar 5))) (vVar 7)) (vSl opSl (vVar 4) (vPart (vVar 5)) (fun _ => some none))) (aCons (v2 opAdd (vSl opSl (vVar 4) (fun _ => some none) (vPart (vVar 5))) (vSl opSl (vVar 4) (vPart (v2 opAdd (vVar 5) (vC (.int 1)))) (fun _ => some none))) (aCons (v2 opAdd (v2 opAdd (vSl opSl (vVar 4) (fun _ => some none) (vPart (vVar 5))) (vVar 7)) (vSl opSl (vVar 4) (vPart (v2 opAdd (vVar 5) (vC (.int 1)))) (fun _ => some none))) aNil))))) (sSeq (sSet 4 (v2 opIx (vVar 4) (v2 opMod (v2 opDiv (vVar 1) (vC (.int 512))) (vC (.int 3))))) (sRet (v2 opCat (v2 opCat (vSl opSl (vVar 0) (fun _ => some none) (vPart (vVar 3))) (vLst (aCons (vVar 4) aNil))) (vSl opSl (vVar 0) (vPart (v2 opAdd (vVar 3) (vC (.int 1)))) (fun _ => some none)))))))))))
def den_law_line_changed : List D → Option D := denOf 8 3 .ow sv_law_line_changed
/-- _law_changed -/
abbrev s_law_changed : Stmt := (top 58)
theorem sc_law_changed : FnScope ["_law_lines_here", "_law_cell", "_law_kinds_here", "_law_kind", "_law_at"] ["_law_lines_here", "_law_cell", "_law_kinds_here"] (defScope s_law_changed) := ⟨rfl, rfl, rfl, by decide +kernel, rfl, by decide +kernel, by decide +kernel⟩
def sv_law_changed : Sv := (sSeq (sSet 3 (v2 opMod (vVar 1) (vC (.int 8)))) (sSeq (sSet 4 (v2 opMod (v2 opDiv (vVar 1) (vC (.int 8))) (vC1 opLen (aCons (vVar 0) aNil)))) (sSeq (sIf (vTst (v2 opEq (vVar 3) (vC (.int 1)))) (sRet (v2 opAdd (vSl opSl (vVar 0) (fun _ => some none) (vPart (vVar 4))) (vSl opSl (vVar 0) (vPart (v2 opAdd (vVar 4) (vC (.int 1)))) (fun _ => some none)))) sNext) (sSeq (sIf (vTst (v2 opEq (vVar 3) (vC (.int 2)))) (sRet (v2 opAdd (v2 opAdd (vSl opSl (vVar 0) (fun _ => some none) (vPart (vVar 4))) (vSl opSl (vVar 0) (vPart (vVar 4)) (vPart (v2 opAdd (vVar 4) (vC (.int 1)))))) (vSl opSl (vVar 0) (vPart (vVar 4)) (fun _ => some none)))) sNext) (sSeq (sIf (vTst (v2 opEq (vVar 3) (vC (.int 3)))) (sRet (v2 opAdd (vSl opSl (vVar 0) (vPart (vVar 4)) (fun _ => some none)) (vSl opSl (vVar 0) (fun _ => some none) (vPart (vVar 4))))) sNext) (sSeq (sIf (vTst (v2 opEq (vVar 3) (vC (.int 4)))) (sRet (v2 opCat (vSl opSl (vVar 0) (fun _ => some none) (vPart (vNeg (vC (.int 1))))) (vLst (aCons (v2 opIx (vLst (aCons (vC (.str "first")) (aCons (vC (.str "second")) (aCons (vC (.str "First")) (aCons (vC (.str "")) (aCons (vC (.str "third")) (aCons (vC (.str "0")) (aCons (vC (.str "second ")) (aCons (vC (.str "firs")) aNil))))))))) (v2 opMod (v2 opDiv (vVar 1) (vC (.int 8))) (vC (.int 8)))) aNil)))) sNext) (sSeq (sIf (bAnd (vTst (v2 opEq (vVar 3) (vC (.int 5)))) (vTst (v2 opEq (v2 opMod (v2 opDiv (vVar 1) (vC (.int 8))) (vC (.int 5))) (vC (.int 1))))) (sRet (vLst aNil)) sNext) (sSeq (sIf (bAnd (vTst (v2 opEq (vVar 3) (vC (.int 6)))) (vTst (v2 opGt (vC1 opLen (aCons (vVar 0) aNil)) (vC (.int 2))))) (sSeq (sSet 4 (v2 opMod (v2 opDiv (vVar 1) (vC (.int 8))) (v2 opSub (vC1 opLen (aCons (vVar 0) aNil)) (vC (.int 2))))) (sRet (v2 opCat (v2 opCat (vSl opSl (vVar 0) (fun _ => some none) (vPart (vVar 4))) (vLst (aCons (vSl opSl (v2 opIx (vVar 0) (vVar 4)) (fun _ => some none) (vPart (vNeg (vC (.int 1))))) (aCons (v2 opAdd (vSl opSl (v2 opIx (vVar 0) (vVar 4)) (vPart (vNeg (vC (.int 1)))) (fun _ => some none)) (v2 opIx (vVar 0) (v2 opAdd (vVar 4) (vC (.int 1))))) aNil)))) (vSl opSl (vVar 0) (vPart (v2 opAdd (vVar 4) (vC (.int 2)))) (fun _ => some none))))) sNext) (sSeq (sIf (vTst (v2 opGt (vVar 3) (vC (.int 5)))) (sRet (vVar 0)) sNext) (sRet (vC1 den_law_line_changed (aCons (vVar 0) (aCons (vVar 1) (aCons (vVar 2) aNil))))))))))))))
def den_law_changed : List D → Option D := denOf 5 3 .sh sv_law_changed
/-- _law_read -/
abbrev s_law_read : Stmt := (top 59)
theorem sc_law_read : FnScope ["_law_lines_here", "_law_wide", "_law_high", "_law_holes", "_law_kinds_here", "_law_row_here", "_law_one", "_law_pieces", "_law_square", "_law_kind"] ["_law_lines_here", "_law_wide", "_law_high", "_law_holes", "_law_kinds_here"] (defScope s_law_read) := ⟨rfl, rfl, rfl, by decide +kernel, rfl, by decide +kernel, by decide +kernel⟩
def e0_law_read : Ev := (vM0 mUpper (vVar 9))
def b1_law_read : Sv := (sSeq (sIf (bOr (bAnd (vTst (v2 opIn (vVar 8) (vVar 3))) (vTst (v2 opNe (v2 opIx (vVar 5) (vVar 8)) (vC (.str "#"))))) (bAnd (vTst (v2 opNin (vVar 8) (vVar 3))) (vTst (v2 opNin (v2 opIx (vVar 5) (vVar 8)) (vVar 7))))) (sRet (vC .non)) sNext) (sWip [8] sNext))
def b2_law_read : Sv := (sSeq (sIf (vTst (v2 opNe (vC1 opLen (aCons (vVar 6) aNil)) (vVar 1))) (sRet (vC .non)) sNext) (sSeq (sSet 5 (v2 opAdd (vVar 6) (vVar 5))) (sWip [6] sNext)))
def sv_law_read : Sv := (sSeq (sIf (bOr (vTst (v2 opNe (vC1 opLen (aCons (vVar 0) aNil)) (v2 opAdd (vVar 2) (vC (.int 1))))) (vTst (v2 opNin (v2 opIx (vVar 0) (vNeg (vC (.int 1)))) (vLst (aCons (vC (.str "first")) (aCons (vC (.str "second")) aNil)))))) (sRet (vC .non)) sNext) (sSeq (sSet 5 (vC (.str ""))) (sSeq (sFor (iAnyF (vSl opSl (vVar 0) (fun _ => some none) (vPart (vNeg (vC (.int 1)))))) (hName 6) b2_law_read) (sSeq (sSet 7 (v2 opCat (v2 opCat (vVar 4) (vLc (iAnyF (vVar 4)) (hName 9) tsYes e0_law_read [9])) (vLst (aCons (vC (.str ".")) aNil)))) (sWip [4] (sSeq (sFor (iRngF1 (aCons (v2 opMulI (vVar 1) (vVar 2)) aNil)) (hName 8) b1_law_read) (sRet (vTup (aCons (vVar 5) (aCons (vC1 opInt (aCons (v2 opEq (v2 opIx (vVar 0) (vNeg (vC (.int 1)))) (vC (.str "second"))) aNil)) aNil))))))))))
def den_law_read : List D → Option D := denOf 10 5 .sh sv_law_read
/-- _law_alone -/
abbrev s_law_alone : Stmt := (top 60)
theorem sc_law_alone : FnScope ["_law_e", "_law_told_here"] ["_law_e"] (defScope s_law_alone) := ⟨rfl, rfl, rfl, by decide +kernel, rfl, by decide +kernel, by decide +kernel⟩
def sv_law_alone (pin : Addr) (exc_c : Str) : Sv := (sSeq (sSet 1 (vLst (aCons (vC1 (opIsE pin exc_c) (aCons (vVar 0) (aCons (vC (.cls "BadBoard")) aNil))) (aCons (vC1 (opIsE pin exc_c) (aCons (vVar 0) (aCons (vC (.cls "BadGame")) aNil))) (aCons (vC1 (opIsE pin exc_c) (aCons (vVar 0) (aCons (vC (.cls "BadLine")) aNil))) (aCons (vC1 (opIsE pin exc_c) (aCons (vVar 0) (aCons (vC (.cls "BadPlace")) aNil))) aNil)))))) (sSeq (sSet 1 (v2 opCat (vVar 1) (vLst (aCons (vC1 (opIsE pin exc_c) (aCons (vVar 0) (aCons (vC (.cls "NoMove")) aNil))) (aCons (vC1 (opIsE pin exc_c) (aCons (vVar 0) (aCons (vC (.cls "TooWide")) aNil))) (aCons (vC1 (opIsE pin exc_c) (aCons (vVar 0) (aCons (vC (.cls "NoWord")) aNil))) (aCons (vC1 (opIsE pin exc_c) (aCons (vVar 0) (aCons (vC (.cls "Over")) aNil))) aNil))))))) (sSeq (sSet 1 (v2 opCat (vVar 1) (vLst (aCons (vC1 (opIsE pin exc_c) (aCons (vVar 0) (aCons (vC (.cls "NothingBack")) aNil))) aNil)))) (sRet (vAnd (v2 opEq (vCnt (vVar 1) (vC (.bl true))) (vC (.int 1))) (vC1 (opIsE pin exc_c) (aCons (vVar 0) (aCons (vC (.ty "ValueError")) aNil))))))))
def den_law_alone (pin : Addr) (exc_c : Str) : List D → Option D := denOf 2 1 .sh (sv_law_alone pin exc_c)
/-- _law_told -/
abbrev s_law_told : Stmt := (top 61)
theorem sc_law_told : FnScope ["_law_game", "_law_lines_here", "_law_e"] ["_law_game", "_law_lines_here"] (defScope s_law_told) := ⟨rfl, rfl, rfl, by decide +kernel, rfl, by decide +kernel, by decide +kernel⟩
def y0_law_told : Sv := (sX (xC1 den_place_of (aCons (vVar 0) (aCons (vVar 1) aNil))) (sRet (okV (xC1 den_place_of (aCons (vVar 0) (aCons (vVar 1) aNil))))))
def sv_law_told : Sv := (sSeq (sTryAs 2 (ctOf ["BadPlace"] "PlayError") [] y0_law_told (fun pin exc_c => (sRet (vIf (bAnd (vTst (vC1 (opIsE pin exc_c) (aCons (vVar 2) (aCons (vC (.cls "BadPlace")) aNil)))) (vTst (vC1 (den_law_alone pin exc_c) (aCons (vVar 2) aNil)))) (vC .non) (vC (.str "another refusal")))))) sNext)
def den_law_told : List D → Option D := denOf 3 2 .sh sv_law_told
/-- law -/
abbrev s_law : Stmt := (top 62)
theorem sc_law : FnScope ["_law_script", "_law_wide", "_law_high", "_law_holes", "_law_kinds_here", "_law_word", "_law_is_word", "_law_game", "_law_place", "_law_due", "_law_found", "_law_cells", "_law_cell", "_law_lines_here", "_law_handed", "_law_told_here", "_law_one"] ["_law_script"] (defScope s_law) := ⟨rfl, rfl, rfl, by decide +kernel, rfl, by decide +kernel, by decide +kernel⟩
def t0_law : Dl.Env → Option Bool := (bNot (vTst (vC1 opIsi (aCons (vVar 16) (aCons (vC (.ty "str")) aNil)))))
def e1_law : Ev := (vC1 den_law_mixed (aCons (vVar 12) (aCons (vC (.int 1)) aNil)))
def b2_law : Sv := (sSeq (sSet 13 (vC1 den_law_changed (aCons (vVar 9) (aCons (vVar 12) (aCons (vVar 4) aNil))))) (sSeq (sSet 14 (vC1 opList (aCons (vVar 13) aNil))) (sSeq (sSet 15 (vC1 den_law_told (aCons (vVar 7) (aCons (vVar 14) aNil)))) (sSeq (sIf (bOr (vTst (v2 opNe (vVar 15) (vC1 den_law_read (aCons (vVar 13) (aCons (vVar 1) (aCons (vVar 2) (aCons (vVar 3) (aCons (vVar 4) aNil)))))))) (vTst (v2 opNe (vVar 14) (vVar 13)))) (sRet (vC (.bl false))) sNext) (sSeq (sClr 14) (sSeq (sIf (bAnd (vTst (v2 opNot (vVar 15) (vC .non))) (bOr (bNot (vTst (vC1 opIsi (aCons (vVar 15) (aCons (vC (.ty "tuple")) aNil))))) (bNot (vTst (vC1 den_law_whole (aCons (v2 opIx (vVar 15) (vC (.int 1))) aNil)))))) (sRet (vC (.bl false))) sNext) (sWip [12, 13, 14, 15] sNext)))))))
def sv_law : Sv := (sSeq (sAsg (vC1 den_law_board (aCons (vVar 0) aNil)) (hTup 3 (hCons (hName 1) (hCons (hName 2) (hCons (hName 3) hNil))))) (sSeq (sSet 4 (vC1 den_law_kinds (aCons (vC1 den_law_cell_at (aCons (vVar 0) (aCons (vC (.int 2)) aNil))) aNil))) (sSeq (sSet 5 (v2 opIx (vLst (aCons (vC (.str "first")) (aCons (vC (.str "second")) aNil))) (v2 opMod (v2 opDiv (vC1 den_law_cell_at (aCons (vVar 0) (aCons (vC (.int 3)) aNil))) (vC (.int 2))) (vC (.int 2))))) (sSeq (sSet 6 (v2 opEq (v2 opMod (v2 opDiv (vC1 den_law_cell_at (aCons (vVar 0) (aCons (vC (.int 3)) aNil))) (vC (.int 4))) (vC (.int 16))) (vC (.int 3)))) (sSeq (sIf (vTst (vVar 6)) (sSeq (sPar3 1 3 4 (aCons (vC1 opLen (aCons (vVar 5) aNil)) (aCons (vLst aNil) (aCons (vC1 opListE (aCons (vVar 5) aNil)) aNil)))) sNext) sNext) (sSeq (sSet 7 (vC1 (denM den_Game__init_) (aCons (vC1 (denM den_Board__init_) (aCons (vVar 1) (aCons (vVar 2) (aCons (vC1 opList (aCons (vVar 3) aNil)) aNil)))) (aCons (vC1 opList (aCons (vVar 4) aNil)) (aCons (vLst aNil) (aCons (vLst aNil) (aCons (vLst aNil) (aCons (vC (.str "lost")) aNil)))))))) (sSeq (sSet 8 (vTup (aCons (vC1 den_law_row (aCons (vVar 0) (aCons (vVar 7) (aCons (vC (.int 5)) aNil)))) (aCons (v2 opMod (vC1 den_law_cell_at (aCons (vVar 0) (aCons (vC (.int 3)) aNil))) (vC (.int 2))) aNil)))) (sSeq (sIf (vTst (vVar 6)) (sSeq (sSet 8 (vTup (aCons (v2 opAdd (vVar 5) (vSl opSl (v2 opIx (vVar 8) (vC (.int 0))) (vPart (vVar 1)) (fun _ => some none))) (aCons (v2 opIx (vVar 8) (vC (.int 1))) aNil)))) (sWip [5, 6] sNext)) (sWip [5, 6] sNext)) (sSeq (sSet 9 (vC1 den_law_lines (aCons (vVar 8) (aCons (vVar 1) (aCons (vVar 2) aNil))))) (sSeq (sSet 10 (vC1 den_shown (aCons (vVar 7) (aCons (vVar 8) aNil)))) (sSeq (sIf (bOr (bNot (vTst (vC1 opIsi (aCons (vVar 10) (aCons (vC (.ty "list")) aNil))))) (bOr (vTst (v2 opNe (vVar 10) (vVar 9))) (vTst (v2 opNe (vLc (iAnyF (vVar 10)) (hName 16) t0_law (vVar 16) [16]) (vLst aNil))))) (sRet (vC (.bl false))) sNext) (sSeq (sApp 10 (vC (.str "more"))) (sSeq (sIf (bOr (vTst (v2 opNe (vC1 den_shown (aCons (vVar 7) (aCons (vVar 8) aNil))) (vVar 9))) (vTst (v2 opNe (vVar 10) (v2 opCat (vVar 9) (vLst (aCons (vC (.str "more")) aNil)))))) (sRet (vC (.bl false))) sNext) (sSeq (sSet 11 (v2 opCat (v2 opCat (vLst (aCons (vC (.int 7)) (aCons (vC1 den_law_mixed (aCons (vC1 den_law_cell_at (aCons (vVar 0) (aCons (vC (.int 4)) aNil))) (aCons (vC (.int 2)) aNil))) aNil))) (vLc (iAnyF (vSl opSl (vVar 0) (vPart (vC (.int 12))) (vPart (vC (.int 18))))) (hName 12) tsYes e1_law [12])) (vLst (aCons (vC (.int 7)) aNil)))) (sWip [0, 8, 10] (sSeq (sFor (iAnyF (vVar 11)) (hName 12) b2_law) (sRet (vC (.bl true)))))))))))))))))))
def den_law : List D → Option D := denOf 17 1 .sh sv_law
end
end Pr
set_option maxHeartbeats 4000000
namespace Pr
open PySem L2 Dl
def t_is_whole (thing : D) : Option Bool := ((isiD thing "int").bind fun z2 => if z2 = true then ((isiD thing "bool").bind fun z1 => some (!z1)) else some false)
def t_is_letter (thing : D) : Option Bool := ((isiD thing "str").bind fun z6 => if z6 = true then (((lenD thing).bind fun z3 => some (decide (z3 = (1 : Int)))).bind fun z5 => if z5 = true then (opInB thing (D.str ("abcdefghijklmnopqrstuvwxyz" : Str))) else some false) else some false)
def t_is_among (thing : D) (least : Int) (most : Int) : Option Bool := ((t_is_whole thing).bind fun z4 => if z4 = true then ((some least).bind fun z1 => (cI thing).bind fun z2 => if (decide (z1 ≤ z2)) = true then (some most).bind fun z3 => some (decide (z2 ≤ z3)) else some false) else some false)
def t_kind_of (sign : Str) : Option (Option Str) := (if ((decide (sign = ("." : Str))) || (decide (sign = ("#" : Str)))) = true then (some none) else ((lowT sign).bind fun z1 => some (some z1)))
def t_shown (game : TGame) (place : (Str × Int)) : Option (List Str) := (lett place fun pair => ((((some game.board.high).bind rngRT).bind fun z24 => foldT (fun v5 at_ => (((some pair.1).bind fun z14 => ((mulT at_ game.board.wide).bind fun z8 => some (some z8)).bind fun z15 => (((mulT at_ game.board.wide).bind fun z11 => some (z11 + game.board.wide)).bind fun z13 => some (some z13)).bind fun z16 => some (cutS' z14 z15 z16)).bind fun z17 => (appT v5 z17).bind fun lines => (some lines))) z24 []).bind fun v18 => (((atI [("first" : Str), ("second" : Str)] pair.2).bind fun z21 => (some [z21])).bind fun z22 => (catL v18 z22))))
def t_need (good : Bool) : Option (Rt Unit) := (if (!good) = true then (some (.ex "BadPlace")) else (some (.ok ())))
def t_are_holes (things : (List D)) (many : Int) : Option Bool := (bindC (forT (fun v1 thing => (((t_is_among thing (0 : Int) (many - (1 : Int))).bind fun z2 => some (!z2)).bind fun z3 => if z3 = true then (some (.rt false)) else (some (.nx ())))) things ()) (fun v4 => (((lenSetD ((eL eD) things)).bind fun z5 => some (decide (z5 = (things.length : Int)))).bind fun z7 => if z7 = true then (some (decide ((things.length : Int) < many))) else some false)) (fun r => r))
def t_Board__init_ (wide : D) (high : D) (holes : D) : Option TBoard := if ([eD wide, eD high, eD holes] : List D).all (fun d => !isSlf d) = true then ((((t_is_among wide (1 : Int) (8 : Int)).bind fun z2 => some (!z2)).bind fun z3 => if z3 = true then some true else ((t_is_among high (1 : Int) (8 : Int)).bind fun z1 => some (!z1))).bind fun z12 => if z12 = true then none else ((((isiD holes "list").bind fun z9 => some (!z9)).bind fun z10 => if z10 = true then some true else ((((cL cD) holes).bind fun z6 => (((cI wide).bind fun z4 => (cI high).bind fun z5 => (mulT z4 z5)).bind fun z7 => (t_are_holes z6 z7))).bind fun z8 => some (!z8))).bind fun z11 => if z11 = true then none else ((cI wide).bind fun wide1 => ((cI high).bind fun high1 => ((sortDT holes).bind fun holes1 => (some ({ wide := wide1, high := high1, holes := holes1 } : TBoard))))))) else none
def t_Board_has (self : TBoard) (square : D) : Option Bool := ((((mulT self.wide self.high).bind fun z8 => some (z8 - (1 : Int))).bind fun z10 => (t_is_among square (0 : Int) z10)).bind fun z11 => if z11 = true then (ninB square ((eL D.int) self.holes)) else some false)
def t_is_sign (game : TGame) (square : Int) (sign : Str) : Option Bool := (((t_Board_has game.board (D.int square)).bind fun z2 => some (!z2)).bind fun z6 => if z6 = true then (some (decide (sign = ("#" : Str)))) else (if (decide (sign = ("." : Str))) = true then some true else ((t_kind_of sign).bind fun z4 => some (memB z4 ((List.map (fun x => some ((fun x => x) x))) game.kinds)))))
def t_is_place (game : TGame) (thing : D) : Option Bool := ((((isiD thing "tuple").bind fun z8 => some (!z8)).bind fun z9 => if z9 = true then some true else (((lenD thing).bind fun z5 => some (!decide (z5 = (2 : Int)))).bind fun z7 => if z7 = true then some true else (((opIx thing (D.int (0 : Int))).bind fun z3 => (isiD z3 "str")).bind fun z4 => some (!z4)))).bind fun z26 => if z26 = true then (some false) else (((cT2 cS cD) thing).bind fun pair => ((((mulT game.board.wide game.board.high).bind fun z17 => some (!decide ((pair.1.length : Int) = z17))).bind fun z19 => if z19 = true then some true else ((t_is_among pair.2 (0 : Int) (1 : Int)).bind fun z10 => some (!z10))).bind fun z25 => if z25 = true then (some false) else (bindC (forT (fun v20 item => (((t_is_sign game item.1 item.2).bind fun z21 => some (!z21)).bind fun z22 => if z22 = true then (some (.rt false)) else (some (.nx ())))) (enumT (sgs pair.1)) ()) (fun v23 => (some true)) (fun r => r)))))
def t_place_of (game : TGame) (lines : (List Str)) : Option (Rt (Str × Int)) := (bindX ((if (decide ((lines.length : Int) = (game.board.high + (1 : Int)))) = true then ((atI lines (-(1 : Int))).bind fun z4 => some (decide (z4 ∈ [("first" : Str), ("second" : Str)]))) else some false).bind fun z8 => (t_need z8)) (fun _ => (bindC (forT (fun v11 line => (bindX (t_need (decide ((line.length : Int) = game.board.wide))) (fun _ => (some (.nx ()))) (fun c => Ctl.rt (Rt.ex c)))) (cutD lines none (some (-(1 : Int)))) ()) (fun v14 => ((((some ("" : Str)).bind fun z17 => (some (cutD lines none (some (-(1 : Int))))).bind fun z18 => joinT z17 z18.reverse).bind fun z23 => (((atI lines (-(1 : Int))).bind fun z22 => indexT [("first" : Str), ("second" : Str)] z22).bind fun z24 => (some (z23, z24)))).bind fun place => (bindX ((t_is_place game ((eT2 D.str D.int) place)).bind fun z25 => (t_need z25)) (fun _ => (some (.ok place))) (fun c => Rt.ex c)))) (fun r => r))) (fun c => Rt.ex c))
def t_far_of (sort : Str) : Option Int := (if (decide (sort = ("leap" : Str))) = true then (some (3 : Int)) else (some (1 : Int)))
def t_is_rule (thing : (Str × Str × Str × Int × Int)) (kinds : (List Str)) : Option Bool := ((if (!true) = true then some true else ((lenD ((eT5 D.str D.str D.str D.int D.int) thing)).bind fun z1 => some (!decide (z1 = (5 : Int))))).bind fun z10 => if z10 = true then (some false) else (if ((!decide (thing.1 ∈ kinds)) || ((!decide (thing.2.1 ∈ [("leap" : Str), ("slide" : Str), ("jump" : Str)])) || (!decide (thing.2.2.1 ∈ [("go" : Str), ("hit" : Str), ("any" : Str)])))) = true then (some false) else (if ((decide (thing.2.1 = ("jump" : Str))) && (!decide (thing.2.2.1 = ("hit" : Str)))) = true then (some false) else ((t_far_of thing.2.1).bind fun far => ((((t_is_among (D.int thing.2.2.2.1) (-far) far).bind fun z7 => some (!z7)).bind fun z8 => if z8 = true then some true else ((t_is_among (D.int thing.2.2.2.2) (-far) far).bind fun z5 => some (!z5))).bind fun z9 => if z9 = true then (some false) else (some ((!decide (thing.2.2.2.1 = (0 : Int))) || (!decide (thing.2.2.2.2 = (0 : Int))))))))))
def t_are_pairs (thing : (List (Str × Str))) : Option Bool := (if ((!true) || (decide ((6 : Int) < (thing.length : Int)))) = true then (some false) else (bindC (forT (fun v2 pair => ((if (!true) = true then some true else ((lenD ((eT2 D.str D.str) pair)).bind fun z3 => some (!decide (z3 = (2 : Int))))).bind fun z6 => if z6 = true then (some (.rt false)) else (some (.nx ())))) thing ()) (fun v7 => (some true)) (fun r => r)))
def t_is_turns (thing : (List (Str × Str))) (kinds : (List Str)) : Option Bool := (((t_are_pairs thing).bind fun z1 => some (!z1)).bind fun z8 => if z8 = true then (some false) else (bindC (forT (fun v2 pair => (if ((!decide (pair.1 ∈ kinds)) || ((!decide (pair.2 ∈ kinds)) || ((decide (pair.1 = pair.2)) || (decide (pair.1 ∈ v2))))) = true then (some (.rt false)) else ((appT v2 pair.1).bind fun firsts => (some (.nx firsts))))) thing []) (fun v3 => (bindC (forT (fun v4 pair1 => (if (decide (pair1.2 ∈ v3)) = true then (some (.rt false)) else (some (.nx ())))) thing ()) (fun v5 => (some true)) (fun r => r))) (fun r => r)))
def t_is_ends (thing : (List (Str × Str))) (kinds : (List Str)) : Option Bool := (((t_are_pairs thing).bind fun z1 => some (!z1)).bind fun z5 => if z5 = true then (some false) else (bindC (forT (fun v2 pair => (if ((!decide (pair.1 ∈ [("without" : Str), ("home" : Str)])) || (!decide (pair.2 ∈ kinds))) = true then (some (.rt false)) else (some (.nx ())))) thing ()) (fun v3 => (some true)) (fun r => r)))
def t_are_kinds (thing : (List Str)) : Option Bool := (if ((!true) || (!((decide ((1 : Int) ≤ (thing.length : Int))) && (decide ((thing.length : Int) ≤ (6 : Int)))))) = true then (some false) else (bindC (forT (fun v3 kind => (((t_is_letter (D.str kind)).bind fun z4 => some (!z4)).bind fun z5 => if z5 = true then (some (.rt false)) else (some (.nx ())))) thing ()) (fun v6 => ((lenSetT thing).bind fun z7 => some (decide (z7 = (thing.length : Int))))) (fun r => r)))
def t_are_rules (thing : (List (Str × Str × Str × Int × Int))) (kinds : (List Str)) : Option Bool := (if ((!true) || (decide ((24 : Int) < (thing.length : Int)))) = true then (some false) else (bindC (forT (fun v2 rule => (((t_is_rule rule kinds).bind fun z3 => some (!z3)).bind fun z4 => if z4 = true then (some (.rt false)) else (some (.nx ())))) thing ()) (fun v5 => (some true)) (fun r => r)))
def t_Game__init_ (board : TBoard) (kinds : (List Str)) (rules : (List (Str × Str × Str × Int × Int))) (turns : (List (Str × Str))) (ends : (List (Str × Str))) (stuck : Str) : Option TGame := if ([eBoard board, (eL D.str) kinds, (eL (eT5 D.str D.str D.str D.int D.int)) rules, (eL (eT2 D.str D.str)) turns, (eL (eT2 D.str D.str)) ends, D.str stuck] : List D).all (fun d => !isSlf d) = true then ((((t_are_kinds kinds).bind fun z2 => some (!z2)).bind fun z3 => if z3 = true then some true else ((t_are_rules rules kinds).bind fun z1 => some (!z1))).bind fun z9 => if z9 = true then none else ((((t_is_turns turns kinds).bind fun z6 => some (!z6)).bind fun z7 => if z7 = true then some true else (((t_is_ends ends kinds).bind fun z4 => some (!z4)).bind fun z5 => if z5 = true then some true else (some (!decide (stuck ∈ [("lost" : Str), ("even" : Str), ("won" : Str)]))))).bind fun z8 => if z8 = true then none else (some ({ board := board, kinds := kinds, rules := rules, turns := turns, ends := ends, stuck := stuck } : TGame)))) else none
def t_law_cell_at (script : (List Int)) (k : Int) : Option Int := (if (decide (k < (script.length : Int))) = true then (atI script k) else (some (0 : Int)))
def t_law_mixed (cell : Int) (k : Int) : Option Int := (some ((((cell + (7919 * k)) + (3 : Int)) * 48271) % 2147483647))
def t_law_whole (thing : D) : Option Bool := ((isiD thing "int").bind fun z2 => if z2 = true then ((isiD thing "bool").bind fun z1 => some (!z1)) else some false)
def t_law_board (script : (List Int)) : Option (Int × Int × (List Int)) := ((t_law_cell_at script (0 : Int)).bind fun cell => (lett ((1 : Int) + (cell % 4)) fun wide => (lett ((1 : Int) + ((cell / 4) % 4)) fun high => ((if (decide (((cell / 16) % 8) = (5 : Int))) = true then (lett ((1 : Int) + ((cell / 128) % 8)) fun wide1 => (lett ((1 : Int) + ((cell / 1024) % 8)) fun high1 => (some (wide1, high1)))) else (some (wide, high))).bind fun v1 => ((t_law_cell_at script (1 : Int)).bind fun cell1 => ((((atI [(0 : Int), (0 : Int), (1 : Int), (2 : Int)] (cell1 % 4)).bind rngT).bind fun z16 => foldT (fun v4 k => (((t_law_mixed (cell1 / 4) k).bind fun z7 => (mulT v1.1 v1.2).bind fun z8 => (modT z7 z8)).bind fun hole => (((if (!decide (hole ∈ v4)) = true then ((mulT v1.1 v1.2).bind fun z11 => some (decide (((v4.length : Int) + (1 : Int)) < z11))) else some false).bind fun z14 => if z14 = true then ((appT v4 hole).bind fun holes => (some holes)) else (some v4)).bind fun v13 => (some v13)))) z16 []).bind fun v15 => (some (v1.1, v1.2, v15))))))))
def t_law_kinds (cell : Int) : Option (List Str) := ((atI [(1 : Int), (3 : Int), (5 : Int), (7 : Int), (9 : Int), (11 : Int)] ((cell / 208) % 6)).bind fun step => (((atI [(1 : Int), (2 : Int), (2 : Int), (3 : Int), (3 : Int), (1 : Int), (6 : Int), (4 : Int)] (cell % 8)).bind rngT).bind fun z12 => (lcT (fun k => (some true)) (fun k => ((((mulT step k).bind fun z7 => some ((cell / 8) + z7)).bind fun z9 => some (z9 % 26)).bind fun z10 => (atS ("abcdefghijklmnopqrstuvwxyz" : Str) z10))) z12)))
def t_law_row (script : (List Int)) (game : TGame) (start : Int) : Option Str := ((mulT game.board.wide game.board.high).bind fun size => (((rngT size).bind fun z9 => (lcT (fun square => (some (!decide (square ∈ game.board.holes)))) (fun square => (some square)) z9)).bind fun free => (((rngT size).bind fun z14 => (lcT (fun square1 => (some true)) (fun square1 => (atS (".#" : Str) (b2i (decide (square1 ∈ game.board.holes))))) z14)).bind fun signs => ((t_law_cell_at script start).bind fun cell => ((lcT (fun k => (some true)) (fun k => ((t_law_cell_at script ((start + (1 : Int)) + k)).bind fun z15 => (t_law_mixed z15 k))) (rng 6)).bind fun cells => ((lcT (fun more => (some true)) (fun more => ((modT more (free.length : Int)).bind fun z20 => (atI free z20))) (cutD cells none (some ((1 : Int) + (cell % 6))))).bind fun spots => ((if (decide (((cell / 6) % 8) = (1 : Int))) = true then (lett (cutD free none (some (12 : Int))) fun spots1 => (some spots1)) else (some spots)).bind fun v23 => ((if (decide (((cell / 6) % 9) = (2 : Int))) = true then (some []) else (some v23)).bind fun v25 => ((foldT (fun v26 item => (((atI cells (item.1 % 6)).bind fun z29 => some (z29 + (4099 * (item.1 / 6)))).bind fun more1 => (((modT (more1 / 64) (game.kinds.length : Int)).bind fun z35 => (atI game.kinds z35)).bind fun kind => ((((uppT kind).bind fun z37 => (some [z37, kind])).bind fun z38 => (atI z38 ((more1 / 512) % 2))).bind fun z40 => (some item.2).bind fun z41 => (putLT v26 z41 z40).bind fun signs1 => (some signs1))))) (enumT v25) signs).bind fun v42 => (joinT ("" : Str) v42))))))))))
def t_law_lines (place : (Str × Int)) (wide : Int) (high : Int) : Option (List Str) := (((rngT high).bind fun z12 => foldT (fun v1 k => ((mulT ((high - (1 : Int)) - k) wide).bind fun begin => ((appT v1 (cutS' place.1 (some begin) (some (begin + wide)))).bind fun lines_here => (some lines_here)))) z12 []).bind fun v6 => (((atI [("first" : Str), ("second" : Str)] place.2).bind fun z9 => (some [z9])).bind fun z10 => (catL v6 z10)))
def t_law_line_changed (lines_here : (List Str)) (cell : Int) (kinds_here : (List Str)) : Option (List Str) := ((modT (cell / 8) (lines_here.length : Int)).bind fun at_ => (((atI lines_here at_).bind fun z5 => some (D.str z5)).bind fun one => ((((lenD one).bind fun z6 => some (z6 + (1 : Int))).bind fun z8 => (modT (cell / 64) z8)).bind fun place => (((((joinT ("" : Str) kinds_here).bind fun z10 => (catS (".#" : Str) z10)).bind fun z13 => ((joinT ("" : Str) kinds_here).bind fun z12 => (uppT z12)).bind fun z14 => (catS z13 z14)).bind fun z15 => (catS z15 ("Qz 1first" : Str))).bind fun signs => (((modT (cell / 1024) (signs.length : Int)).bind fun z19 => (atS signs z19)).bind fun sign => (((((((((some one).bind fun z22 => (some none).bind fun z23 => (some (some place)).bind fun z24 => opSl z22 z23 z24).bind cS).bind fun z25 => (catS z25 sign)).bind fun z31 => (((some one).bind fun z28 => (some (some place)).bind fun z29 => (some none).bind fun z30 => opSl z28 z29 z30).bind cS).bind fun z32 => (catS z31 z32)).bind fun z33 => some (D.str z33)).bind fun z57 => ((((some one).bind fun z35 => (some none).bind fun z36 => (some (some place)).bind fun z37 => opSl z35 z36 z37).bind fun z42 => ((some one).bind fun z39 => (some (some (place + (1 : Int)))).bind fun z40 => (some none).bind fun z41 => opSl z39 z40 z41).bind fun z43 => (opAdd z42 z43)).bind fun z58 => (((((((some one).bind fun z45 => (some none).bind fun z46 => (some (some place)).bind fun z47 => opSl z45 z46 z47).bind cS).bind fun z48 => (catS z48 sign)).bind fun z54 => (((some one).bind fun z51 => (some (some (place + (1 : Int)))).bind fun z52 => (some none).bind fun z53 => opSl z51 z52 z53).bind cS).bind fun z55 => (catS z54 z55)).bind fun z56 => some (D.str z56)).bind fun z59 => (some [z57, z58, z59])))).bind fun z60 => some ((eL eD) z60)).bind fun one1 => ((opIx one1 (D.int ((cell / 512) % 3))).bind fun one2 => ((((cS one2).bind fun z64 => (some [z64])).bind fun z65 => (catL (cutD lines_here none (some at_)) z65)).bind fun z68 => (catL z68 (cutD lines_here (some (at_ + (1 : Int))) none))))))))))
def t_law_changed (lines_here : (List Str)) (cell : Int) (kinds_here : (List Str)) : Option (List Str) := (lett (cell % 8) fun kind => ((modT (cell / 8) (lines_here.length : Int)).bind fun at_ => (if (decide (kind = (1 : Int))) = true then (catL (cutD lines_here none (some at_)) (cutD lines_here (some (at_ + (1 : Int))) none)) else (if (decide (kind = (2 : Int))) = true then ((catL (cutD lines_here none (some at_)) (cutD lines_here (some at_) (some (at_ + (1 : Int))))).bind fun z13 => (catL z13 (cutD lines_here (some at_) none))) else (if (decide (kind = (3 : Int))) = true then (catL (cutD lines_here (some at_) none) (cutD lines_here none (some at_))) else (if (decide (kind = (4 : Int))) = true then (((atI [("first" : Str), ("second" : Str), ("First" : Str), ("" : Str), ("third" : Str), ("0" : Str), ("second " : Str), ("firs" : Str)] ((cell / 8) % 8)).bind fun z23 => (some [z23])).bind fun z24 => (catL (cutD lines_here none (some (-(1 : Int)))) z24)) else (if ((decide (kind = (5 : Int))) && (decide (((cell / 8) % 5) = (1 : Int)))) = true then (some []) else (if ((decide (kind = (6 : Int))) && (decide ((2 : Int) < (lines_here.length : Int)))) = true then ((modT (cell / 8) ((lines_here.length : Int) - (2 : Int))).bind fun at_1 => (((((atI lines_here at_1).bind fun z33 => (some none).bind fun z34 => (some (some (-(1 : Int)))).bind fun z35 => some (cutS' z33 z34 z35)).bind fun z47 => ((((atI lines_here at_1).bind fun z40 => (some (some (-(1 : Int)))).bind fun z41 => (some none).bind fun z42 => some (cutS' z40 z41 z42)).bind fun z45 => (atI lines_here (at_1 + (1 : Int))).bind fun z46 => (catS z45 z46)).bind fun z48 => (some [z47, z48]))).bind fun z49 => (catL (cutD lines_here none (some at_1)) z49)).bind fun z52 => (catL z52 (cutD lines_here (some (at_1 + (2 : Int))) none)))) else (if (decide ((5 : Int) < kind)) = true then (some lines_here) else (t_law_line_changed lines_here cell kinds_here))))))))))
def t_law_read (lines_here : (List Str)) (wide : Int) (high : Int) (holes : (List Int)) (kinds_here : (List Str)) : Option (Option (Str × Int)) := ((if (!decide ((lines_here.length : Int) = (high + (1 : Int)))) = true then some true else ((atI lines_here (-(1 : Int))).bind fun z4 => some (!decide (z4 ∈ [("first" : Str), ("second" : Str)])))).bind fun z41 => if z41 = true then (some none) else (bindC (forT (fun v8 one => (if (!decide ((one.length : Int) = wide)) = true then (some (.rt none)) else ((catS one v8).bind fun row_here => (some (.nx row_here))))) (cutD lines_here none (some (-(1 : Int)))) ("" : Str)) (fun v11 => ((((lcT (fun kind => (some true)) (fun kind => (uppT kind)) kinds_here).bind fun z13 => (catL kinds_here z13)).bind fun z15 => (catL z15 [("." : Str)])).bind fun pieces => (bindC (((mulT wide high).bind rngT).bind fun z39 => forT (fun v19 square => (((if (decide (square ∈ holes)) = true then ((atS v11 square).bind fun z26 => some (!decide (z26 = ("#" : Str)))) else some false).bind fun z28 => if z28 = true then some true else (if (!decide (square ∈ holes)) = true then ((atS v11 square).bind fun z22 => some (!decide (z22 ∈ pieces))) else some false)).bind fun z29 => if z29 = true then (some (.rt none)) else (some (.nx ())))) z39 ()) (fun v30 => (((((atI lines_here (-(1 : Int))).bind fun z34 => some (decide (z34 = ("second" : Str)))).bind fun z36 => (some (b2i z36))).bind fun z37 => (some (v11, z37))).bind fun z38 => some (some z38))) (fun r => r)))) (fun r => r)))
def t_law_alone (e_ : Str) : Option Bool := (lett [(subX e_ "BadBoard"), (subX e_ "BadGame"), (subX e_ "BadLine"), (subX e_ "BadPlace")] fun told_here => ((catL told_here [(subX e_ "NoMove"), (subX e_ "TooWide"), (subX e_ "NoWord"), (subX e_ "Over")]).bind fun told_here1 => ((catL told_here1 [(subX e_ "NothingBack")]).bind fun told_here2 => (some ((decide ((cntT told_here2 true) = (1 : Int))) && true)))))
def t_law_told (game : TGame) (lines_here : (List Str)) : Option D := (bindC (tryC (σ := Unit) ((mapRt (eT2 D.str D.int) (t_place_of game lines_here)).bind fun r => some (.rt r)) (fun exc_c => if ctOf ["BadPlace"] "PlayError" exc_c = some true then ((((if (subX exc_c "BadPlace") = true then (t_law_alone exc_c) else some false).bind fun z2 => if z2 = true then (some none) else (some (some ("another refusal" : Str)))).bind fun z3 => some ((eO D.str) z3)).bind fun z4 => some (.rt z4)) else none)) (fun v5 => none) (fun r => r))
def t_law (script : (List Int)) : Option Bool := ((t_law_board script).bind fun pair => (((t_law_cell_at script (2 : Int)).bind fun z1 => (t_law_kinds z1)).bind fun kinds_here => (((((t_law_cell_at script (3 : Int)).bind fun z2 => some (z2 / 2)).bind fun z3 => some (z3 % 2)).bind fun z4 => (atI [("first" : Str), ("second" : Str)] z4)).bind fun word => (((((t_law_cell_at script (3 : Int)).bind fun z6 => some (z6 / 4)).bind fun z7 => some (z7 % 16)).bind fun z8 => some (decide (z8 = (3 : Int)))).bind fun is_word => ((if is_word = true then (lett (word.length : Int) fun wide => lett [] fun holes => lett (sgs word) fun kinds_here1 => (some (wide, holes, kinds_here1))) else (some (pair.1, pair.2.2, kinds_here))).bind fun v10 => (((t_Board__init_ (D.int v10.1) (D.int pair.2.1) ((eL D.int) v10.2.1)).bind fun z11 => (t_Game__init_ z11 v10.2.2 [] [] [] ("lost" : Str))).bind fun game => (((t_law_row script game (5 : Int)).bind fun z13 => (((t_law_cell_at script (3 : Int)).bind fun z12 => some (z12 % 2)).bind fun z14 => (some (z13, z14)))).bind fun place => ((if is_word = true then (((catS word (cutS' place.1 (some v10.1) none)).bind fun z19 => (some (z19, place.2))).bind fun place1 => (some place1)) else (some place)).bind fun v15 => ((t_law_lines v15 v10.1 pair.2.1).bind fun due => ((t_shown game v15).bind fun found => (if ((!true) || ((!decide (found = due)) || (!decide (((found.filter fun one => (!true)).map fun one => one) = ([] : (List Str)))))) = true then (some false) else ((appT found ("more" : Str)).bind fun found1 => ((((t_shown game v15).bind fun z26 => some (!decide (z26 = due))).bind fun z28 => if z28 = true then some true else ((catL due [("more" : Str)]).bind fun z24 => some (!decide (found1 = z24)))).bind fun z53 => if z53 = true then (some false) else ((((((t_law_cell_at script (4 : Int)).bind fun z29 => (t_law_mixed z29 (2 : Int))).bind fun z30 => (some [(7 : Int), z30])).bind fun z34 => (lcT (fun cell => (some true)) (fun cell => (t_law_mixed cell (1 : Int))) (cutD script (some (12 : Int)) (some (18 : Int)))).bind fun z35 => (catL z34 z35)).bind fun z36 => (catL z36 [(7 : Int)])).bind fun cells => (bindC (forT (fun v38 cell1 => ((t_law_changed due cell1 v10.2.2).bind fun lines_here => ((t_law_told game lines_here).bind fun told_here => (((((t_law_read lines_here v10.1 pair.2.1 v10.2.1 v10.2.2).bind fun z39 => some ((eO (eT2 D.str D.int)) z39)).bind fun z40 => (neB told_here z40)).bind fun z42 => if z42 = true then some true else (some (!decide (lines_here = lines_here)))).bind fun z50 => if z50 = true then (some (.rt false)) else ((if (!isNon told_here) = true then (((isiD told_here "tuple").bind fun z47 => some (!z47)).bind fun z48 => if z48 = true then some true else (((opIx told_here (D.int (1 : Int))).bind fun z45 => (t_law_whole z45)).bind fun z46 => some (!z46))) else some false).bind fun z49 => if z49 = true then (some (.rt false)) else (some (.nx ()))))))) cells ()) (fun v51 => (some true)) (fun r => r))))))))))))))))
end Pr
set_option maxHeartbeats 4000000
namespace Pr
open PySem L2 Dl
structure Prg (K : PySem.W.Frag) (mg : Str → Option Value) where
  d_is_whole : Dfn K mg "is_whole" "is_whole" s_is_whole ["thing"]
  d_is_letter : Dfn K mg "is_letter" "is_letter" s_is_letter ["thing"]
  d_is_among : Dfn K mg "is_among" "is_among" s_is_among ["thing", "least", "most"]
  d_kind_of : Dfn K mg "kind_of" "kind_of" s_kind_of ["sign"]
  d_shown : Dfn K mg "shown" "shown" s_shown ["game", "place"]
  d_need : Dfn K mg "need" "need" s_need ["good"]
  d_are_holes : Dfn K mg "are_holes" "are_holes" s_are_holes ["things", "many"]
  d_Board__init_ : DfnM K "__init__" "Board.__init__" s_Board__init_ ["self", "wide", "high", "holes"]
  d_Board_has : DfnM K "has" "Board.has" s_Board_has ["self", "square"]
  d_is_sign : Dfn K mg "is_sign" "is_sign" s_is_sign ["game", "square", "sign"]
  d_is_place : Dfn K mg "is_place" "is_place" s_is_place ["game", "thing"]
  d_place_of : Dfn K mg "place_of" "place_of" s_place_of ["game", "lines"]
  d_far_of : Dfn K mg "far_of" "far_of" s_far_of ["sort"]
  d_is_rule : Dfn K mg "is_rule" "is_rule" s_is_rule ["thing", "kinds"]
  d_are_pairs : Dfn K mg "are_pairs" "are_pairs" s_are_pairs ["thing"]
  d_is_turns : Dfn K mg "is_turns" "is_turns" s_is_turns ["thing", "kinds"]
  d_is_ends : Dfn K mg "is_ends" "is_ends" s_is_ends ["thing", "kinds"]
  d_are_kinds : Dfn K mg "are_kinds" "are_kinds" s_are_kinds ["thing"]
  d_are_rules : Dfn K mg "are_rules" "are_rules" s_are_rules ["thing", "kinds"]
  d_Game__init_ : DfnM K "__init__" "Game.__init__" s_Game__init_ ["self", "board", "kinds", "rules", "turns", "ends", "stuck"]
  d_law_cell_at : Dfn K mg "_law_cell_at" "_law_cell_at" s_law_cell_at ["_law_script", "_law_k"]
  d_law_mixed : Dfn K mg "_law_mixed" "_law_mixed" s_law_mixed ["_law_cell", "_law_k"]
  d_law_whole : Dfn K mg "_law_whole" "_law_whole" s_law_whole ["_law_thing"]
  d_law_board : Dfn K mg "_law_board" "_law_board" s_law_board ["_law_script"]
  d_law_kinds : Dfn K mg "_law_kinds" "_law_kinds" s_law_kinds ["_law_cell"]
  d_law_row : Dfn K mg "_law_row" "_law_row" s_law_row ["_law_script", "_law_game", "_law_start"]
  d_law_lines : Dfn K mg "_law_lines" "_law_lines" s_law_lines ["_law_place", "_law_wide", "_law_high"]
  d_law_line_changed : Dfn K mg "_law_line_changed" "_law_line_changed" s_law_line_changed ["_law_lines_here", "_law_cell", "_law_kinds_here"]
  d_law_changed : Dfn K mg "_law_changed" "_law_changed" s_law_changed ["_law_lines_here", "_law_cell", "_law_kinds_here"]
  d_law_read : Dfn K mg "_law_read" "_law_read" s_law_read ["_law_lines_here", "_law_wide", "_law_high", "_law_holes", "_law_kinds_here"]
  d_law_alone : Dfn K mg "_law_alone" "_law_alone" s_law_alone ["_law_e"]
  d_law_told : Dfn K mg "_law_told" "_law_told" s_law_told ["_law_game", "_law_lines_here"]
  d_law : Dfn K mg "law" "law" s_law ["_law_script"]
  z_bool : mg "bool" = none
  z_isinstance : mg "isinstance" = none
  z_int : mg "int" = none
  z_len : mg "len" = none
  z_str : mg "str" = none
  z_range : mg "range" = none
  z_reversed : mg "reversed" = none
  z_set : mg "set" = none
  z_list : mg "list" = none
  z_sorted : mg "sorted" = none
  z_tuple : mg "tuple" = none
  z_enumerate : mg "enumerate" = none
  z_ValueError : mg "ValueError" = none
  C_Board : Addr
  g_Board : mg "Board" = some (.ref C_Board)
  cl_Board : Cls K C_Board
  mk_Board : Mk K C_Board d_Board__init_.f
  me_Board_has : Meth K C_Board "has" d_Board_has.f
  na_Board_board : NoAttr K C_Board "board"
  na_Board_wide : NoAttr K C_Board "wide"
  na_Board_high : NoAttr K C_Board "high"
  na_Board_holes : NoAttr K C_Board "holes"
  na_Board_kinds : NoAttr K C_Board "kinds"
  na_Board_rules : NoAttr K C_Board "rules"
  na_Board_turns : NoAttr K C_Board "turns"
  na_Board_ends : NoAttr K C_Board "ends"
  na_Board_stuck : NoAttr K C_Board "stuck"
  C_Game : Addr
  g_Game : mg "Game" = some (.ref C_Game)
  cl_Game : Cls K C_Game
  mk_Game : Mk K C_Game d_Game__init_.f
  na_Game_board : NoAttr K C_Game "board"
  na_Game_wide : NoAttr K C_Game "wide"
  na_Game_high : NoAttr K C_Game "high"
  na_Game_holes : NoAttr K C_Game "holes"
  na_Game_kinds : NoAttr K C_Game "kinds"
  na_Game_rules : NoAttr K C_Game "rules"
  na_Game_turns : NoAttr K C_Game "turns"
  na_Game_ends : NoAttr K C_Game "ends"
  na_Game_stuck : NoAttr K C_Game "stuck"
  X_BadPlace : Addr
  gx_BadPlace : mg "BadPlace" = some (.ref X_BadPlace)
  X_BadBoard : Addr
  gx_BadBoard : mg "BadBoard" = some (.ref X_BadBoard)
  X_BadGame : Addr
  gx_BadGame : mg "BadGame" = some (.ref X_BadGame)
  X_BadLine : Addr
  gx_BadLine : mg "BadLine" = some (.ref X_BadLine)
  X_NoMove : Addr
  gx_NoMove : mg "NoMove" = some (.ref X_NoMove)
  X_TooWide : Addr
  gx_TooWide : mg "TooWide" = some (.ref X_TooWide)
  X_NoWord : Addr
  gx_NoWord : mg "NoWord" = some (.ref X_NoWord)
  X_Over : Addr
  gx_Over : mg "Over" = some (.ref X_Over)
  X_NothingBack : Addr
  gx_NothingBack : mg "NothingBack" = some (.ref X_NothingBack)
  X_PlayError : Addr
  gx_PlayError : mg "PlayError" = some (.ref X_PlayError)
  ef_BadPlace : ExcF K mg "BadPlace" X_BadPlace
  ec_BadPlace : ExcC K X_BadPlace
  kv_BadPlace : PySem.W.kitOne K (.ref X_BadPlace) (.type "ValueError") = some true
  ki_BadPlace_BadPlace : PySem.W.kitOne K (.ref X_BadPlace) (.ref X_BadPlace) = some true
  ki_BadPlace_BadBoard : PySem.W.kitOne K (.ref X_BadPlace) (.ref X_BadBoard) = some false
  ki_BadPlace_BadGame : PySem.W.kitOne K (.ref X_BadPlace) (.ref X_BadGame) = some false
  ki_BadPlace_BadLine : PySem.W.kitOne K (.ref X_BadPlace) (.ref X_BadLine) = some false
  ki_BadPlace_NoMove : PySem.W.kitOne K (.ref X_BadPlace) (.ref X_NoMove) = some false
  ki_BadPlace_TooWide : PySem.W.kitOne K (.ref X_BadPlace) (.ref X_TooWide) = some false
  ki_BadPlace_NoWord : PySem.W.kitOne K (.ref X_BadPlace) (.ref X_NoWord) = some false
  ki_BadPlace_Over : PySem.W.kitOne K (.ref X_BadPlace) (.ref X_Over) = some false
  ki_BadPlace_NothingBack : PySem.W.kitOne K (.ref X_BadPlace) (.ref X_NothingBack) = some false
  ki_BadPlace_PlayError : PySem.W.kitOne K (.ref X_BadPlace) (.ref X_PlayError) = some true
  cm_BadPlace_PlayError : PySem.W.exmOne K (.ref X_BadPlace) (.ref X_PlayError) = some true
  t_LETTERS : Tok
  c_LETTERS : mg "LETTERS" = some (.str "abcdefghijklmnopqrstuvwxyz" t_LETTERS)
  t_EMPTY : Tok
  c_EMPTY : mg "EMPTY" = some (.str "." t_EMPTY)
  t_HOLE : Tok
  c_HOLE : mg "HOLE" = some (.str "#" t_HOLE)
  a_SIDES : Addr
  c_SIDES : mg "SIDES" = some (.ref a_SIDES)
  r_SIDES : ∀ (Γ : CM) (S : Hp), Rep K Γ S (.ktup [.str "first", .str "second"]) (.ref a_SIDES)
  k_SIDES : ∃ ob, K.lookup a_SIDES = some ob ∧ ob.cls = .type "tuple" ∧ ob.dict = none
  t_MOST_SIDE : Tok
  c_MOST_SIDE : mg "MOST_SIDE" = some (.int 8 t_MOST_SIDE)
  a_SORTS : Addr
  c_SORTS : mg "SORTS" = some (.ref a_SORTS)
  r_SORTS : ∀ (Γ : CM) (S : Hp), Rep K Γ S (.ktup [.str "leap", .str "slide", .str "jump"]) (.ref a_SORTS)
  a_AIMS : Addr
  c_AIMS : mg "AIMS" = some (.ref a_AIMS)
  r_AIMS : ∀ (Γ : CM) (S : Hp), Rep K Γ S (.ktup [.str "go", .str "hit", .str "any"]) (.ref a_AIMS)
  a_END_WORDS : Addr
  c_END_WORDS : mg "END_WORDS" = some (.ref a_END_WORDS)
  r_END_WORDS : ∀ (Γ : CM) (S : Hp), Rep K Γ S (.ktup [.str "without", .str "home"]) (.ref a_END_WORDS)
  a_STUCK_WORDS : Addr
  c_STUCK_WORDS : mg "STUCK_WORDS" = some (.ref a_STUCK_WORDS)
  r_STUCK_WORDS : ∀ (Γ : CM) (S : Hp), Rep K Γ S (.ktup [.str "lost", .str "even", .str "won"]) (.ref a_STUCK_WORDS)
  t_MOST_RULES : Tok
  c_MOST_RULES : mg "MOST_RULES" = some (.int 24 t_MOST_RULES)
  t_MOST_PAIRS : Tok
  c_MOST_PAIRS : mg "MOST_PAIRS" = some (.int 6 t_MOST_PAIRS)
  t_MOST_KINDS : Tok
  c_MOST_KINDS : mg "MOST_KINDS" = some (.int 6 t_MOST_KINDS)
def gam {K : PySem.W.Frag} {mg : Str → Option Value} (T : Prg K mg) : CM := fun c => if c = "Board" then some T.C_Board else if c = "Game" then some T.C_Game else if c = "BadPlace" then some T.X_BadPlace else if c = "BadBoard" then some T.X_BadBoard else if c = "BadGame" then some T.X_BadGame else if c = "BadLine" then some T.X_BadLine else if c = "NoMove" then some T.X_NoMove else if c = "TooWide" then some T.X_TooWide else if c = "NoWord" then some T.X_NoWord else if c = "Over" then some T.X_Over else if c = "NothingBack" then some T.X_NothingBack else if c = "PlayError" then some T.X_PlayError else none
theorem gam_Board {K : PySem.W.Frag} {mg : Str → Option Value} (T : Prg K mg) : iM (gam T) "Board" = some T.C_Board := by
  unfold iM gam
  rw [if_neg (by decide)]
  exact if_pos rfl
theorem gam_Game {K : PySem.W.Frag} {mg : Str → Option Value} (T : Prg K mg) : iM (gam T) "Game" = some T.C_Game := by
  unfold iM gam
  rw [if_neg (by decide)]
  rw [if_neg (by decide)]
  exact if_pos rfl
theorem gam_BadPlace {K : PySem.W.Frag} {mg : Str → Option Value} (T : Prg K mg) : gam T "BadPlace" = some T.X_BadPlace := by
  unfold gam
  rw [if_neg (by decide)]
  rw [if_neg (by decide)]
  exact if_pos rfl
theorem gam_BadBoard {K : PySem.W.Frag} {mg : Str → Option Value} (T : Prg K mg) : gam T "BadBoard" = some T.X_BadBoard := by
  unfold gam
  rw [if_neg (by decide)]
  rw [if_neg (by decide)]
  rw [if_neg (by decide)]
  exact if_pos rfl
theorem gam_BadGame {K : PySem.W.Frag} {mg : Str → Option Value} (T : Prg K mg) : gam T "BadGame" = some T.X_BadGame := by
  unfold gam
  rw [if_neg (by decide)]
  rw [if_neg (by decide)]
  rw [if_neg (by decide)]
  rw [if_neg (by decide)]
  exact if_pos rfl
theorem gam_BadLine {K : PySem.W.Frag} {mg : Str → Option Value} (T : Prg K mg) : gam T "BadLine" = some T.X_BadLine := by
  unfold gam
  rw [if_neg (by decide)]
  rw [if_neg (by decide)]
  rw [if_neg (by decide)]
  rw [if_neg (by decide)]
  rw [if_neg (by decide)]
  exact if_pos rfl
theorem gam_NoMove {K : PySem.W.Frag} {mg : Str → Option Value} (T : Prg K mg) : gam T "NoMove" = some T.X_NoMove := by
  unfold gam
  rw [if_neg (by decide)]
  rw [if_neg (by decide)]
  rw [if_neg (by decide)]
  rw [if_neg (by decide)]
  rw [if_neg (by decide)]
  rw [if_neg (by decide)]
  exact if_pos rfl
theorem gam_TooWide {K : PySem.W.Frag} {mg : Str → Option Value} (T : Prg K mg) : gam T "TooWide" = some T.X_TooWide := by
  unfold gam
  rw [if_neg (by decide)]
  rw [if_neg (by decide)]
  rw [if_neg (by decide)]
  rw [if_neg (by decide)]
  rw [if_neg (by decide)]
  rw [if_neg (by decide)]
  rw [if_neg (by decide)]
  exact if_pos rfl
theorem gam_NoWord {K : PySem.W.Frag} {mg : Str → Option Value} (T : Prg K mg) : gam T "NoWord" = some T.X_NoWord := by
  unfold gam
  rw [if_neg (by decide)]
  rw [if_neg (by decide)]
  rw [if_neg (by decide)]
  rw [if_neg (by decide)]
  rw [if_neg (by decide)]
  rw [if_neg (by decide)]
  rw [if_neg (by decide)]
  rw [if_neg (by decide)]
  exact if_pos rfl
theorem gam_Over {K : PySem.W.Frag} {mg : Str → Option Value} (T : Prg K mg) : gam T "Over" = some T.X_Over := by
  unfold gam
  rw [if_neg (by decide)]
  rw [if_neg (by decide)]
  rw [if_neg (by decide)]
  rw [if_neg (by decide)]
  rw [if_neg (by decide)]
  rw [if_neg (by decide)]
  rw [if_neg (by decide)]
  rw [if_neg (by decide)]
  rw [if_neg (by decide)]
  exact if_pos rfl
theorem gam_NothingBack {K : PySem.W.Frag} {mg : Str → Option Value} (T : Prg K mg) : gam T "NothingBack" = some T.X_NothingBack := by
  unfold gam
  rw [if_neg (by decide)]
  rw [if_neg (by decide)]
  rw [if_neg (by decide)]
  rw [if_neg (by decide)]
  rw [if_neg (by decide)]
  rw [if_neg (by decide)]
  rw [if_neg (by decide)]
  rw [if_neg (by decide)]
  rw [if_neg (by decide)]
  rw [if_neg (by decide)]
  exact if_pos rfl
theorem gam_PlayError {K : PySem.W.Frag} {mg : Str → Option Value} (T : Prg K mg) : gam T "PlayError" = some T.X_PlayError := by
  unfold gam
  rw [if_neg (by decide)]
  rw [if_neg (by decide)]
  rw [if_neg (by decide)]
  rw [if_neg (by decide)]
  rw [if_neg (by decide)]
  rw [if_neg (by decide)]
  rw [if_neg (by decide)]
  rw [if_neg (by decide)]
  rw [if_neg (by decide)]
  rw [if_neg (by decide)]
  rw [if_neg (by decide)]
  exact if_pos rfl
abbrev excs : List Str := ["BadPlace"]
def gamX : Str → Bool := fun n => (["BadPlace", "BadBoard", "BadGame", "BadLine", "NoMove", "TooWide", "NoWord", "Over", "NothingBack", "PlayError"] : List Str).contains n
theorem kis_BadPlace {K : PySem.W.Frag} {mg : Str → Option Value} (T : Prg K mg) : ∀ n Cn, gam T n = some Cn → n ∈ excN → PySem.W.kitOne K (.ref T.X_BadPlace) (.ref Cn) = some (subX "BadPlace" n) := fun n Cn h hn => by
  unfold gam at h
  split at h
  · rename_i z; subst z; exact absurd hn (by decide)
  split at h
  · rename_i z; subst z; exact absurd hn (by decide)
  split at h
  · rename_i z; subst z; cases h; exact T.ki_BadPlace_BadPlace
  split at h
  · rename_i z; subst z; cases h; exact T.ki_BadPlace_BadBoard
  split at h
  · rename_i z; subst z; cases h; exact T.ki_BadPlace_BadGame
  split at h
  · rename_i z; subst z; cases h; exact T.ki_BadPlace_BadLine
  split at h
  · rename_i z; subst z; cases h; exact T.ki_BadPlace_NoMove
  split at h
  · rename_i z; subst z; cases h; exact T.ki_BadPlace_TooWide
  split at h
  · rename_i z; subst z; cases h; exact T.ki_BadPlace_NoWord
  split at h
  · rename_i z; subst z; cases h; exact T.ki_BadPlace_Over
  split at h
  · rename_i z; subst z; cases h; exact T.ki_BadPlace_NothingBack
  split at h
  · rename_i z; subst z; cases h; exact T.ki_BadPlace_PlayError
  cases h
theorem exI {K : PySem.W.Frag} {mg : Str → Option Value} (T : Prg K mg) {c : Str} {C : Addr} (hC : gam T c = some C) (h : c ∈ excs) : ExcI K (gam T) c C := by
  rw [List.mem_singleton] at h; subst h
  have e := (gam_BadPlace T).symm.trans hC; cases e; exact ⟨T.ec_BadPlace, kis_BadPlace T, T.kv_BadPlace⟩
theorem ct_PlayError {K : PySem.W.Frag} {mg : Str → Option Value} (T : Prg K mg) : ∀ c b C, ctOf excs "PlayError" c = some b → gam T c = some C → PySem.W.exmOne K (.ref C) (.ref T.X_PlayError) = some b := fun c b C h hC => by
  have m := ctOf_mem h
  unfold ctOf at h; rw [if_pos m] at h; cases h
  rw [List.mem_singleton] at m; subst m
  have e := (gam_BadPlace T).symm.trans hC; cases e; exact T.cm_BadPlace_PlayError
theorem cls_board {K : PySem.W.Frag} {mg : Str → Option Value} (T : Prg K mg) : ∀ c, ClsOk K (gam T) c "board" := fun c => ⟨fun C h => by
    unfold iM at h
    split at h
    · cases h
    rename_i nx
    unfold gam at h
    split at h
    · cases h; exact ⟨T.cl_Board, T.na_Board_board⟩
    split at h
    · cases h; exact ⟨T.cl_Game, T.na_Game_board⟩
    split at h
    · rename_i z; subst z; exact absurd (by decide) nx
    split at h
    · rename_i z; subst z; exact absurd (by decide) nx
    split at h
    · rename_i z; subst z; exact absurd (by decide) nx
    split at h
    · rename_i z; subst z; exact absurd (by decide) nx
    split at h
    · rename_i z; subst z; exact absurd (by decide) nx
    split at h
    · rename_i z; subst z; exact absurd (by decide) nx
    split at h
    · rename_i z; subst z; exact absurd (by decide) nx
    split at h
    · rename_i z; subst z; exact absurd (by decide) nx
    split at h
    · rename_i z; subst z; exact absurd (by decide) nx
    split at h
    · rename_i z; subst z; exact absurd (by decide) nx
    cases h⟩
theorem cls_wide {K : PySem.W.Frag} {mg : Str → Option Value} (T : Prg K mg) : ∀ c, ClsOk K (gam T) c "wide" := fun c => ⟨fun C h => by
    unfold iM at h
    split at h
    · cases h
    rename_i nx
    unfold gam at h
    split at h
    · cases h; exact ⟨T.cl_Board, T.na_Board_wide⟩
    split at h
    · cases h; exact ⟨T.cl_Game, T.na_Game_wide⟩
    split at h
    · rename_i z; subst z; exact absurd (by decide) nx
    split at h
    · rename_i z; subst z; exact absurd (by decide) nx
    split at h
    · rename_i z; subst z; exact absurd (by decide) nx
    split at h
    · rename_i z; subst z; exact absurd (by decide) nx
    split at h
    · rename_i z; subst z; exact absurd (by decide) nx
    split at h
    · rename_i z; subst z; exact absurd (by decide) nx
    split at h
    · rename_i z; subst z; exact absurd (by decide) nx
    split at h
    · rename_i z; subst z; exact absurd (by decide) nx
    split at h
    · rename_i z; subst z; exact absurd (by decide) nx
    split at h
    · rename_i z; subst z; exact absurd (by decide) nx
    cases h⟩
theorem cls_high {K : PySem.W.Frag} {mg : Str → Option Value} (T : Prg K mg) : ∀ c, ClsOk K (gam T) c "high" := fun c => ⟨fun C h => by
    unfold iM at h
    split at h
    · cases h
    rename_i nx
    unfold gam at h
    split at h
    · cases h; exact ⟨T.cl_Board, T.na_Board_high⟩
    split at h
    · cases h; exact ⟨T.cl_Game, T.na_Game_high⟩
    split at h
    · rename_i z; subst z; exact absurd (by decide) nx
    split at h
    · rename_i z; subst z; exact absurd (by decide) nx
    split at h
    · rename_i z; subst z; exact absurd (by decide) nx
    split at h
    · rename_i z; subst z; exact absurd (by decide) nx
    split at h
    · rename_i z; subst z; exact absurd (by decide) nx
    split at h
    · rename_i z; subst z; exact absurd (by decide) nx
    split at h
    · rename_i z; subst z; exact absurd (by decide) nx
    split at h
    · rename_i z; subst z; exact absurd (by decide) nx
    split at h
    · rename_i z; subst z; exact absurd (by decide) nx
    split at h
    · rename_i z; subst z; exact absurd (by decide) nx
    cases h⟩
theorem cls_holes {K : PySem.W.Frag} {mg : Str → Option Value} (T : Prg K mg) : ∀ c, ClsOk K (gam T) c "holes" := fun c => ⟨fun C h => by
    unfold iM at h
    split at h
    · cases h
    rename_i nx
    unfold gam at h
    split at h
    · cases h; exact ⟨T.cl_Board, T.na_Board_holes⟩
    split at h
    · cases h; exact ⟨T.cl_Game, T.na_Game_holes⟩
    split at h
    · rename_i z; subst z; exact absurd (by decide) nx
    split at h
    · rename_i z; subst z; exact absurd (by decide) nx
    split at h
    · rename_i z; subst z; exact absurd (by decide) nx
    split at h
    · rename_i z; subst z; exact absurd (by decide) nx
    split at h
    · rename_i z; subst z; exact absurd (by decide) nx
    split at h
    · rename_i z; subst z; exact absurd (by decide) nx
    split at h
    · rename_i z; subst z; exact absurd (by decide) nx
    split at h
    · rename_i z; subst z; exact absurd (by decide) nx
    split at h
    · rename_i z; subst z; exact absurd (by decide) nx
    split at h
    · rename_i z; subst z; exact absurd (by decide) nx
    cases h⟩
theorem cls_kinds {K : PySem.W.Frag} {mg : Str → Option Value} (T : Prg K mg) : ∀ c, ClsOk K (gam T) c "kinds" := fun c => ⟨fun C h => by
    unfold iM at h
    split at h
    · cases h
    rename_i nx
    unfold gam at h
    split at h
    · cases h; exact ⟨T.cl_Board, T.na_Board_kinds⟩
    split at h
    · cases h; exact ⟨T.cl_Game, T.na_Game_kinds⟩
    split at h
    · rename_i z; subst z; exact absurd (by decide) nx
    split at h
    · rename_i z; subst z; exact absurd (by decide) nx
    split at h
    · rename_i z; subst z; exact absurd (by decide) nx
    split at h
    · rename_i z; subst z; exact absurd (by decide) nx
    split at h
    · rename_i z; subst z; exact absurd (by decide) nx
    split at h
    · rename_i z; subst z; exact absurd (by decide) nx
    split at h
    · rename_i z; subst z; exact absurd (by decide) nx
    split at h
    · rename_i z; subst z; exact absurd (by decide) nx
    split at h
    · rename_i z; subst z; exact absurd (by decide) nx
    split at h
    · rename_i z; subst z; exact absurd (by decide) nx
    cases h⟩
theorem cls_rules {K : PySem.W.Frag} {mg : Str → Option Value} (T : Prg K mg) : ∀ c, ClsOk K (gam T) c "rules" := fun c => ⟨fun C h => by
    unfold iM at h
    split at h
    · cases h
    rename_i nx
    unfold gam at h
    split at h
    · cases h; exact ⟨T.cl_Board, T.na_Board_rules⟩
    split at h
    · cases h; exact ⟨T.cl_Game, T.na_Game_rules⟩
    split at h
    · rename_i z; subst z; exact absurd (by decide) nx
    split at h
    · rename_i z; subst z; exact absurd (by decide) nx
    split at h
    · rename_i z; subst z; exact absurd (by decide) nx
    split at h
    · rename_i z; subst z; exact absurd (by decide) nx
    split at h
    · rename_i z; subst z; exact absurd (by decide) nx
    split at h
    · rename_i z; subst z; exact absurd (by decide) nx
    split at h
    · rename_i z; subst z; exact absurd (by decide) nx
    split at h
    · rename_i z; subst z; exact absurd (by decide) nx
    split at h
    · rename_i z; subst z; exact absurd (by decide) nx
    split at h
    · rename_i z; subst z; exact absurd (by decide) nx
    cases h⟩
theorem cls_turns {K : PySem.W.Frag} {mg : Str → Option Value} (T : Prg K mg) : ∀ c, ClsOk K (gam T) c "turns" := fun c => ⟨fun C h => by
    unfold iM at h
    split at h
    · cases h
    rename_i nx
    unfold gam at h
    split at h
    · cases h; exact ⟨T.cl_Board, T.na_Board_turns⟩
    split at h
    · cases h; exact ⟨T.cl_Game, T.na_Game_turns⟩
    split at h
    · rename_i z; subst z; exact absurd (by decide) nx
    split at h
    · rename_i z; subst z; exact absurd (by decide) nx
    split at h
    · rename_i z; subst z; exact absurd (by decide) nx
    split at h
    · rename_i z; subst z; exact absurd (by decide) nx
    split at h
    · rename_i z; subst z; exact absurd (by decide) nx
    split at h
    · rename_i z; subst z; exact absurd (by decide) nx
    split at h
    · rename_i z; subst z; exact absurd (by decide) nx
    split at h
    · rename_i z; subst z; exact absurd (by decide) nx
    split at h
    · rename_i z; subst z; exact absurd (by decide) nx
    split at h
    · rename_i z; subst z; exact absurd (by decide) nx
    cases h⟩
theorem cls_ends {K : PySem.W.Frag} {mg : Str → Option Value} (T : Prg K mg) : ∀ c, ClsOk K (gam T) c "ends" := fun c => ⟨fun C h => by
    unfold iM at h
    split at h
    · cases h
    rename_i nx
    unfold gam at h
    split at h
    · cases h; exact ⟨T.cl_Board, T.na_Board_ends⟩
    split at h
    · cases h; exact ⟨T.cl_Game, T.na_Game_ends⟩
    split at h
    · rename_i z; subst z; exact absurd (by decide) nx
    split at h
    · rename_i z; subst z; exact absurd (by decide) nx
    split at h
    · rename_i z; subst z; exact absurd (by decide) nx
    split at h
    · rename_i z; subst z; exact absurd (by decide) nx
    split at h
    · rename_i z; subst z; exact absurd (by decide) nx
    split at h
    · rename_i z; subst z; exact absurd (by decide) nx
    split at h
    · rename_i z; subst z; exact absurd (by decide) nx
    split at h
    · rename_i z; subst z; exact absurd (by decide) nx
    split at h
    · rename_i z; subst z; exact absurd (by decide) nx
    split at h
    · rename_i z; subst z; exact absurd (by decide) nx
    cases h⟩
theorem cls_stuck {K : PySem.W.Frag} {mg : Str → Option Value} (T : Prg K mg) : ∀ c, ClsOk K (gam T) c "stuck" := fun c => ⟨fun C h => by
    unfold iM at h
    split at h
    · cases h
    rename_i nx
    unfold gam at h
    split at h
    · cases h; exact ⟨T.cl_Board, T.na_Board_stuck⟩
    split at h
    · cases h; exact ⟨T.cl_Game, T.na_Game_stuck⟩
    split at h
    · rename_i z; subst z; exact absurd (by decide) nx
    split at h
    · rename_i z; subst z; exact absurd (by decide) nx
    split at h
    · rename_i z; subst z; exact absurd (by decide) nx
    split at h
    · rename_i z; subst z; exact absurd (by decide) nx
    split at h
    · rename_i z; subst z; exact absurd (by decide) nx
    split at h
    · rename_i z; subst z; exact absurd (by decide) nx
    split at h
    · rename_i z; subst z; exact absurd (by decide) nx
    split at h
    · rename_i z; subst z; exact absurd (by decide) nx
    split at h
    · rename_i z; subst z; exact absurd (by decide) nx
    split at h
    · rename_i z; subst z; exact absurd (by decide) nx
    cases h⟩
section
variable {P : Program} {w : World} {K : PySem.W.Frag} {mg : Str → Option Value} {base : Heap}
theorem ok_is_whole (T : Prg K mg) : FnOk P w K mg base CX0 1 T.d_is_whole.f T.d_is_whole.fd ["thing"] (spD K (gam T) [.bo] .sh den_is_whole) := by
  refine fn_ok (N := ["thing"]) (s := sv_is_whole) (M0 := [.bo]) (M' := [.bo]) T.d_is_whole.fn sc_is_whole rfl rfl rfl rfl rfl (fun cdv A outer s0 H E hr => ?_)
  exact ⟨_, _, (dss_one (ds_ret (de_and (de_callB (cd_isiK K) rfl T.z_isinstance (by decide +kernel) (da_cons (m' := .bo) (de_var (i := 0) (m := .bo)) (da_cons (m' := .sh) (de_ty (n := "int") T.z_int) da_nil))) (de_one (de_not (de_callB (cd_isiK K) rfl T.z_isinstance (by decide +kernel) (da_cons (m' := .bo) (de_var (i := 0) (m := .bo)) (da_cons (m' := .sh) (de_ty (n := "bool") T.z_bool) da_nil))))))))⟩
theorem ok_is_letter (T : Prg K mg) : FnOk P w K mg base CX0 1 T.d_is_letter.f T.d_is_letter.fd ["thing"] (spD K (gam T) [.bo] .sh den_is_letter) := by
  refine fn_ok (N := ["thing"]) (s := sv_is_letter) (M0 := [.bo]) (M' := [.bo]) T.d_is_letter.fn sc_is_letter rfl rfl rfl rfl rfl (fun cdv A outer s0 H E hr => ?_)
  exact ⟨_, _, (dss_one (ds_ret (de_and (de_callB (cd_isiK K) rfl T.z_isinstance (by decide +kernel) (da_cons (m' := .bo) (de_var (i := 0) (m := .bo)) (da_cons (m' := .sh) (de_ty (n := "str") T.z_str) da_nil))) (de_and (de_cmp (od_eqK K (by exact hr.units)) (de_callB (cd_lenK K) rfl T.z_len (by decide +kernel) (da_cons (m' := .bo) (de_var (i := 0) (m := .bo)) da_nil)) de_int) (de_one (de_cmp (od_inK K (by exact hr.units)) (de_var (i := 0) (m := .bo)) (de_gstr T.c_LETTERS)))))))⟩
theorem ok_is_among (T : Prg K mg) : FnOk P w K mg base CX0 2 T.d_is_among.f T.d_is_among.fd ["thing", "least", "most"] (spD K (gam T) [.bo, .bo, .bo] .sh den_is_among) := by
  refine fn_ok (N := ["thing", "least", "most"]) (s := sv_is_among) (M0 := [.bo, .bo, .bo]) (M' := [.bo, .bo, .bo]) T.d_is_among.fn sc_is_among rfl rfl rfl rfl rfl (fun cdv A outer s0 H E hr => ?_)
  exact ⟨_, _, (dss_one (ds_ret (de_and (de_callDK K T.d_is_whole (ok_is_whole T) (hr.mono (by decide)) (da_cons (m' := .bo) (de_var (i := 0) (m := .bo)) da_nil)) (de_one (de_chain od_le od_le (de_var (i := 1) (m := .bo)) (de_var (i := 0) (m := .bo)) (de_var (i := 2) (m := .bo)))))))⟩
theorem ok_kind_of (T : Prg K mg) : FnOk P w K mg base CX0 1 T.d_kind_of.f T.d_kind_of.fd ["sign"] (spD K (gam T) [.bo] .sh den_kind_of) := by
  refine fn_ok (N := ["sign"]) (s := sv_kind_of) (M0 := [.bo]) (M' := [.bo]) T.d_kind_of.fn sc_kind_of rfl rfl rfl rfl rfl (fun cdv A outer s0 H E hr => ?_)
  exact ⟨_, _, (dss_cons (ds_if (M1 := [.bo]) (DW.dt (dw_or (dt_cmp (od_eqK K (by exact hr.units)) (de_var (i := 0) (m := .bo)) (de_gstr T.c_EMPTY)) (dw_or1 (dt_cmp (od_eqK K (by exact hr.units)) (de_var (i := 0) (m := .bo)) (de_gstr T.c_HOLE))))) (dss_one (ds_ret de_non)) dss_nil) (dss_one (ds_ret (de_bm0 K PySem.F.slot_str_lower PySem.F.type_str_lower md_lower (de_var (i := 0) (m := .bo))))))⟩
theorem ok_shown (T : Prg K mg) : FnOk P w K mg base CX0 1 T.d_shown.f T.d_shown.fd ["game", "place"] (spD K (gam T) [.bo, .sh] .ow den_shown) := by
  refine fn_ok (N := ["game", "place", "row", "side", "wide", "lines", "at"]) (s := sv_shown) (M0 := [.bo, .sh, .sh, .sh, .sh, .sh, .sh]) (M' := [.bo, .sh, .sh, .sh, .sh, .sh, .sh]) T.d_shown.fn sc_shown rfl rfl rfl rfl rfl (fun cdv A outer s0 H E hr => ?_)
  exact ⟨_, _, (dss_cons (ds_asg (de_var (i := 1) (m := .sh)) (dg_tupK K rfl (dgs_cons (dg_name (i := 2) (M1 := [.bo, .sh, .sh, .sh, .sh, .sh, .sh]) sc_shown.nd) (dgs_cons (dg_name (i := 3) (M1 := [.bo, .sh, .sh, .sh, .sh, .sh, .sh]) sc_shown.nd) dgs_nil)))) (dss_cons (ds_set (i := 4) (M1 := [.bo, .sh, .sh, .sh, .sh, .sh, .sh]) sc_shown.nd (de_fldK K (cls_wide T) (de_fldK K (cls_board T) (de_var (i := 0) (m := .bo))))) (dss_cons (ds_set (i := 5) (M1 := [.bo, .sh, .sh, .sh, .sh, .ow, .sh]) sc_shown.nd (de_lst da_nil)) (dss_wipe [1] (dss_cons (ds_for PassesOwn.never rfl (di_revRng T.z_range T.z_reversed (de_fldK K (cls_high T) (de_fldK K (cls_board T) (de_var (i := 0) (m := .bo))))) (dg_name (i := 6) (M1 := [.bo, .sh, .sh, .sh, .sh, .ow, .sh]) sc_shown.nd) (dss_cons (ds_append (i := 5) rfl (de_slK K (de_var (i := 2) (m := .sh)) (do_some (de_op od_mulI (de_var (i := 6) (m := .sh)) (de_var (i := 4) (m := .sh)))) (do_some (de_op (od_addK K) (de_op od_mulI (de_var (i := 6) (m := .sh)) (de_var (i := 4) (m := .sh))) (de_var (i := 4) (m := .sh)))))) (dss_wipe [6] dss_nil))) (dss_one (ds_ret (de_op od_cat (de_var (i := 5) (m := .ow)) (de_lst (da_cons (m' := .sh) (de_ixK K (by exact hr.units) (de_glob (v := .ref T.a_SIDES) rfl T.c_SIDES rfl (T.r_SIDES _)) (de_var (i := 3) (m := .sh))) da_nil))))))))))⟩
theorem ok_need (T : Prg K mg) : FnOk P w K mg base (L2.CX P w) 1 T.d_need.f T.d_need.fd ["good"] (spX K (gam T) [.bo] .sh den_need) := by
  refine fn_okX (N := ["good"]) (s := sv_need) (M0 := [.bo]) (M' := [.bo]) T.d_need.fn sc_need rfl rfl rfl rfl rfl (fun cdv A outer s0 H E hr => ?_)
  exact ⟨_, _, (dss_cons (ds_if (M1 := [.bo]) (dt_not (dt_val (de_var (i := 0) (m := .bo)))) (dss_one (ds_raise (T.ef_BadPlace) (gam_BadPlace T) takesX)) dss_nil) (dss_wipe [0] dss_nil))⟩
theorem ok_are_holes (T : Prg K mg) : FnOk P w K mg base CX0 3 T.d_are_holes.f T.d_are_holes.fd ["things", "many"] (spD K (gam T) [.bo, .bo] .sh den_are_holes) := by
  refine fn_ok (N := ["things", "many", "thing"]) (s := sv_are_holes) (M0 := [.bo, .bo, .sh]) (M' := [.bo, .bo, .sh]) T.d_are_holes.fn sc_are_holes rfl rfl rfl rfl rfl (fun cdv A outer s0 H E hr => ?_)
  exact ⟨_, _, (dss_cons (ds_for PassesOwn.never rfl (di_anyK K (de_var (i := 0) (m := .bo))) (dg_name (i := 2) (M1 := [.bo, .bo, .sh]) sc_are_holes.nd) (dss_cons (ds_if (M1 := [.bo, .bo, .sh]) (dt_not (dt_val (de_callDK K T.d_is_among (ok_is_among T) (hr.mono (by decide)) (da_cons (m' := .bo) (de_var (i := 2) (m := .sh)) (da_cons (m' := .bo) de_int (da_cons (m' := .bo) (de_op od_sub (de_var (i := 1) (m := .bo)) de_int) da_nil)))))) (dss_one (ds_ret de_bl)) dss_nil) (dss_wipe [2] dss_nil))) (dss_one (ds_ret (de_and (de_cmp (od_eqK K (by exact hr.units)) (de_lenSet K rfl (by exact hr.units) T.z_len T.z_set (de_var (i := 0) (m := .bo))) (de_callB (cd_lenK K) rfl T.z_len (by decide +kernel) (da_cons (m' := .bo) (de_var (i := 0) (m := .bo)) da_nil))) (de_one (de_cmp od_lt (de_callB (cd_lenK K) rfl T.z_len (by decide +kernel) (da_cons (m' := .bo) (de_var (i := 0) (m := .bo)) da_nil)) (de_var (i := 1) (m := .bo))))))))⟩
theorem ok_Board__init_ (T : Prg K mg) : FnOk P w K mg base CX0 4 T.d_Board__init_.f T.d_Board__init_.fd ["self", "wide", "high", "holes"] (spI K (gam T) "Board" [.sh, .sh, .bo] den_Board__init_) := by
  refine init_ok (N := ["self", "wide", "high", "holes"]) (s := sv_Board__init_) (M0 := [.ow, .sh, .sh, .bo]) (M' := [.ow, .sh, .sh, .bo]) T.d_Board__init_.fn sc_Board__init_ rfl rfl rfl rfl rfl rfl (fun cdv A outer s0 H E hr => ?_)
  exact ⟨_, _, (dss_cons (ds_if (M1 := [.ow, .sh, .sh, .bo]) (DW.dt (dw_or (dt_not (dt_val (de_callDK K T.d_is_among (ok_is_among T) (hr.mono (by decide)) (da_cons (m' := .bo) (de_var (i := 1) (m := .sh)) (da_cons (m' := .bo) de_int (da_cons (m' := .bo) (de_gint T.c_MOST_SIDE) da_nil)))))) (dw_or1 (dt_not (dt_val (de_callDK K T.d_is_among (ok_is_among T) (hr.mono (by decide)) (da_cons (m' := .bo) (de_var (i := 2) (m := .sh)) (da_cons (m' := .bo) de_int (da_cons (m' := .bo) (de_gint T.c_MOST_SIDE) da_nil))))))))) (dss_one ds_never) dss_nil) (dss_cons (ds_if (M1 := [.ow, .sh, .sh, .bo]) (DW.dt (dw_or (dt_not (dt_val (de_callB (cd_isiK K) rfl T.z_isinstance (by decide +kernel) (da_cons (m' := .bo) (de_var (i := 3) (m := .bo)) (da_cons (m' := .sh) (de_ty (n := "list") T.z_list) da_nil))))) (dw_or1 (dt_not (dt_val (de_callDK K T.d_are_holes (ok_are_holes T) (hr.mono (by decide)) (da_cons (m' := .bo) (de_var (i := 3) (m := .bo)) (da_cons (m' := .bo) (de_op od_mulI (de_var (i := 1) (m := .sh)) (de_var (i := 2) (m := .sh))) da_nil)))))))) (dss_one ds_never) dss_nil) (dss_cons (ds_fldS K (i := 0) (cls_wide T) rfl (de_var (i := 1) (m := .sh))) (dss_cons (ds_fldS K (i := 0) (cls_high T) rfl (de_var (i := 2) (m := .sh))) (dss_cons (ds_fldS K (i := 0) (cls_holes T) rfl (de_callB (cd_sorted (by exact hr.units)) rfl T.z_sorted (by decide +kernel) (da_cons (m' := .bo) (de_var (i := 3) (m := .bo)) da_nil))) (dss_wipe [1, 2, 3] dss_nil))))))⟩
theorem ok_Board_has (T : Prg K mg) : FnOk P w K mg base CX0 3 T.d_Board_has.f T.d_Board_has.fd ["self", "square"] (spD K (gam T) [.bo, .bo] .sh den_Board_has) := by
  refine fn_ok (N := ["self", "square"]) (s := sv_Board_has) (M0 := [.bo, .bo]) (M' := [.bo, .bo]) T.d_Board_has.fn sc_Board_has rfl rfl rfl rfl rfl (fun cdv A outer s0 H E hr => ?_)
  exact ⟨_, _, (dss_one (ds_ret (de_and (de_callDK K T.d_is_among (ok_is_among T) (hr.mono (by decide)) (da_cons (m' := .bo) (de_var (i := 1) (m := .bo)) (da_cons (m' := .bo) de_int (da_cons (m' := .bo) (de_op od_sub (de_op od_mulI (de_fldK K (cls_wide T) (de_var (i := 0) (m := .bo))) (de_fldK K (cls_high T) (de_var (i := 0) (m := .bo)))) de_int) da_nil)))) (de_one (de_cmp (od_ninK K (by exact hr.units)) (de_var (i := 1) (m := .bo)) (de_fldK K (cls_holes T) (de_var (i := 0) (m := .bo))))))))⟩
theorem ok_is_sign (T : Prg K mg) : FnOk P w K mg base CX0 4 T.d_is_sign.f T.d_is_sign.fd ["game", "square", "sign"] (spD K (gam T) [.bo, .bo, .bo] .sh den_is_sign) := by
  refine fn_ok (N := ["game", "square", "sign"]) (s := sv_is_sign) (M0 := [.bo, .bo, .bo]) (M' := [.bo, .bo, .bo]) T.d_is_sign.fn sc_is_sign rfl rfl rfl rfl rfl (fun cdv A outer s0 H E hr => ?_)
  exact ⟨_, _, (dss_cons (ds_if (M1 := [.bo, .bo, .bo]) (dt_not (dt_val (de_meth K T.cl_Board T.me_Board_has (gam_Board T) (ok_Board_has T) (hr.mono (by decide)) T.d_Board_has.bd (de_fldK K (cls_board T) (de_var (i := 0) (m := .bo))) (da_cons (m' := .bo) (de_var (i := 1) (m := .bo)) da_nil) (.inr rfl)))) (dss_one (ds_ret (de_cmp (od_eqK K (by exact hr.units)) (de_var (i := 2) (m := .bo)) (de_gstr T.c_HOLE)))) dss_nil) (dss_one (ds_ret (de_or (de_cmp (od_eqK K (by exact hr.units)) (de_var (i := 2) (m := .bo)) (de_gstr T.c_EMPTY)) (de_one (de_cmp (od_inK K (by exact hr.units)) (de_callDK K T.d_kind_of (ok_kind_of T) (hr.mono (by decide)) (da_cons (m' := .bo) (de_var (i := 2) (m := .bo)) da_nil)) (de_fldK K (cls_kinds T) (de_var (i := 0) (m := .bo)))))))))⟩
theorem ok_is_place (T : Prg K mg) : FnOk P w K mg base CX0 5 T.d_is_place.f T.d_is_place.fd ["game", "thing"] (spD K (gam T) [.bo, .sh] .sh den_is_place) := by
  refine fn_ok (N := ["game", "thing", "row", "side", "square", "sign"]) (s := sv_is_place) (M0 := [.bo, .sh, .sh, .sh, .sh, .sh]) (M' := [.bo, .sh, .sh, .sh, .sh, .sh]) T.d_is_place.fn sc_is_place rfl rfl rfl rfl rfl (fun cdv A outer s0 H E hr => ?_)
  exact ⟨_, _, (dss_cons (ds_if (M1 := [.bo, .sh, .sh, .sh, .sh, .sh]) (DW.dt (dw_or (dt_not (dt_val (de_callB (cd_isiK K) rfl T.z_isinstance (by decide +kernel) (da_cons (m' := .bo) (de_var (i := 1) (m := .sh)) (da_cons (m' := .sh) (de_ty (n := "tuple") T.z_tuple) da_nil))))) (dw_or (dt_cmp (od_neK K (by exact hr.units)) (de_callB (cd_lenK K) rfl T.z_len (by decide +kernel) (da_cons (m' := .bo) (de_var (i := 1) (m := .sh)) da_nil)) de_int) (dw_or1 (dt_not (dt_val (de_callB (cd_isiK K) rfl T.z_isinstance (by decide +kernel) (da_cons (m' := .bo) (de_ixK K (by exact hr.units) (de_var (i := 1) (m := .sh)) de_int) (da_cons (m' := .sh) (de_ty (n := "str") T.z_str) da_nil))))))))) (dss_one (ds_ret de_bl)) dss_nil) (dss_cons (ds_asg (de_var (i := 1) (m := .sh)) (dg_tupK K rfl (dgs_cons (dg_name (i := 2) (M1 := [.bo, .sh, .sh, .sh, .sh, .sh]) sc_is_place.nd) (dgs_cons (dg_name (i := 3) (M1 := [.bo, .sh, .sh, .sh, .sh, .sh]) sc_is_place.nd) dgs_nil)))) (dss_cons (ds_if (M1 := [.bo, .sh, .sh, .sh, .sh, .sh]) (DW.dt (dw_or (dt_cmp (od_neK K (by exact hr.units)) (de_callB (cd_lenK K) rfl T.z_len (by decide +kernel) (da_cons (m' := .bo) (de_var (i := 2) (m := .sh)) da_nil)) (de_op od_mulI (de_fldK K (cls_wide T) (de_fldK K (cls_board T) (de_var (i := 0) (m := .bo)))) (de_fldK K (cls_high T) (de_fldK K (cls_board T) (de_var (i := 0) (m := .bo)))))) (dw_or1 (dt_not (dt_val (de_callDK K T.d_is_among (ok_is_among T) (hr.mono (by decide)) (da_cons (m' := .bo) (de_var (i := 3) (m := .sh)) (da_cons (m' := .bo) de_int (da_cons (m' := .bo) de_int da_nil))))))))) (dss_one (ds_ret de_bl)) dss_nil) (dss_wipe [1, 3] (dss_cons (ds_for PassesOwn.never rfl (di_enumerate K T.z_enumerate (da_cons (m' := .sh) (de_var (i := 2) (m := .sh)) da_nil)) (dg_tupK K rfl (dgs_cons (dg_name (i := 4) (M1 := [.bo, .sh, .sh, .sh, .sh, .sh]) sc_is_place.nd) (dgs_cons (dg_name (i := 5) (M1 := [.bo, .sh, .sh, .sh, .sh, .sh]) sc_is_place.nd) dgs_nil))) (dss_cons (ds_if (M1 := [.bo, .sh, .sh, .sh, .sh, .sh]) (dt_not (dt_val (de_callDK K T.d_is_sign (ok_is_sign T) (hr.mono (by decide)) (da_cons (m' := .bo) (de_var (i := 0) (m := .bo)) (da_cons (m' := .bo) (de_var (i := 4) (m := .sh)) (da_cons (m' := .bo) (de_var (i := 5) (m := .sh)) da_nil)))))) (dss_one (ds_ret de_bl)) dss_nil) (dss_wipe [4, 5] dss_nil))) (dss_one (ds_ret de_bl)))))))⟩
theorem ok_place_of (T : Prg K mg) : FnOk P w K mg base (L2.CX P w) 6 T.d_place_of.f T.d_place_of.fd ["game", "lines"] (spX K (gam T) [.bo, .bo] .sh den_place_of) := by
  refine fn_okX (N := ["game", "lines", "line", "place"]) (s := sv_place_of) (M0 := [.bo, .bo, .sh, .sh]) (M' := [.bo, .bo, .sh, .sh]) T.d_place_of.fn sc_place_of rfl rfl rfl rfl rfl (fun cdv A outer s0 H E hr => ?_)
  exact ⟨_, _, (dss_cons (ds_exprX (dx_callDK K T.d_need (ok_need T) (hr.mono (by decide)) takesX (da_cons (m' := .bo) (de_and (de_cmp (od_eqK K (by exact hr.units)) (de_callB (cd_lenK K) rfl T.z_len (by decide +kernel) (da_cons (m' := .bo) (de_var (i := 1) (m := .bo)) da_nil)) (de_op (od_addK K) (de_fldK K (cls_high T) (de_fldK K (cls_board T) (de_var (i := 0) (m := .bo)))) de_int)) (de_one (de_cmp (od_inK K (by exact hr.units)) (de_ixK K (by exact hr.units) (de_var (i := 1) (m := .bo)) (de_neg de_int)) (de_glob (v := .ref T.a_SIDES) rfl T.c_SIDES rfl (T.r_SIDES _))))) da_nil))) (dss_cons (ds_for ownX rfl (di_anyK K (de_slK K (de_var (i := 1) (m := .bo)) do_none (do_some (de_neg de_int)))) (dg_name (i := 2) (M1 := [.bo, .bo, .sh, .sh]) sc_place_of.nd) (dss_cons (ds_exprX (dx_callDK K T.d_need (ok_need T) (hr.mono (by decide)) takesX (da_cons (m' := .bo) (de_cmp (od_eqK K (by exact hr.units)) (de_callB (cd_lenK K) rfl T.z_len (by decide +kernel) (da_cons (m' := .bo) (de_var (i := 2) (m := .sh)) da_nil)) (de_fldK K (cls_wide T) (de_fldK K (cls_board T) (de_var (i := 0) (m := .bo))))) da_nil))) (dss_wipe [2] dss_nil))) (dss_cons (ds_set (i := 3) (M1 := [.bo, .bo, .sh, .sh]) sc_place_of.nd (de_tup (da_cons (m' := .sh) (de_joinRev K rfl T.z_reversed de_str (de_slK K (de_var (i := 1) (m := .bo)) do_none (do_some (de_neg de_int)))) (da_cons (m' := .sh) (de_indexK K T.k_SIDES (T.r_SIDES _) (DE.pe (Γ := gam T) (M := [.bo, .bo, .sh, .sh]) (de_glob (v := .ref T.a_SIDES) rfl T.c_SIDES rfl (T.r_SIDES _))) (de_ixK K (by exact hr.units) (de_var (i := 1) (m := .bo)) (de_neg de_int))) da_nil)))) (dss_cons (ds_exprX (dx_callDK K T.d_need (ok_need T) (hr.mono (by decide)) takesX (da_cons (m' := .bo) (de_callDK K T.d_is_place (ok_is_place T) (hr.mono (by decide)) (da_cons (m' := .bo) (de_var (i := 0) (m := .bo)) (da_cons (m' := .sh) (de_var (i := 3) (m := .sh)) da_nil))) da_nil))) (dss_one (ds_ret (de_var (i := 3) (m := .sh))))))))⟩
theorem ok_far_of (T : Prg K mg) : FnOk P w K mg base CX0 1 T.d_far_of.f T.d_far_of.fd ["sort"] (spD K (gam T) [.bo] .sh den_far_of) := by
  refine fn_ok (N := ["sort"]) (s := sv_far_of) (M0 := [.bo]) (M' := [.bo]) T.d_far_of.fn sc_far_of rfl rfl rfl rfl rfl (fun cdv A outer s0 H E hr => ?_)
  exact ⟨_, _, (dss_cons (ds_if (M1 := [.bo]) (dt_cmp (od_eqK K (by exact hr.units)) (de_var (i := 0) (m := .bo)) de_str) (dss_one (ds_ret de_int)) dss_nil) (dss_one (ds_ret de_int)))⟩
theorem ok_is_rule (T : Prg K mg) : FnOk P w K mg base CX0 3 T.d_is_rule.f T.d_is_rule.fd ["thing", "kinds"] (spD K (gam T) [.bo, .bo] .sh den_is_rule) := by
  refine fn_ok (N := ["thing", "kinds", "far"]) (s := sv_is_rule) (M0 := [.bo, .bo, .sh]) (M' := [.bo, .bo, .sh]) T.d_is_rule.fn sc_is_rule rfl rfl rfl rfl rfl (fun cdv A outer s0 H E hr => ?_)
  exact ⟨_, _, (dss_cons (ds_if (M1 := [.bo, .bo, .sh]) (DW.dt (dw_or (dt_not (dt_val (de_callB (cd_isiK K) rfl T.z_isinstance (by decide +kernel) (da_cons (m' := .bo) (de_var (i := 0) (m := .bo)) (da_cons (m' := .sh) (de_ty (n := "tuple") T.z_tuple) da_nil))))) (dw_or1 (dt_cmp (od_neK K (by exact hr.units)) (de_callB (cd_lenK K) rfl T.z_len (by decide +kernel) (da_cons (m' := .bo) (de_var (i := 0) (m := .bo)) da_nil)) de_int)))) (dss_one (ds_ret de_bl)) dss_nil) (dss_cons (ds_if (M1 := [.bo, .bo, .sh]) (DW.dt (dw_or (dt_cmp (od_ninK K (by exact hr.units)) (de_ixK K (by exact hr.units) (de_var (i := 0) (m := .bo)) de_int) (de_var (i := 1) (m := .bo))) (dw_or (dt_cmp (od_ninK K (by exact hr.units)) (de_ixK K (by exact hr.units) (de_var (i := 0) (m := .bo)) de_int) (de_glob (v := .ref T.a_SORTS) rfl T.c_SORTS rfl (T.r_SORTS _))) (dw_or1 (dt_cmp (od_ninK K (by exact hr.units)) (de_ixK K (by exact hr.units) (de_var (i := 0) (m := .bo)) de_int) (de_glob (v := .ref T.a_AIMS) rfl T.c_AIMS rfl (T.r_AIMS _))))))) (dss_one (ds_ret de_bl)) dss_nil) (dss_cons (ds_if (M1 := [.bo, .bo, .sh]) (DW.dt (dw_and (dt_cmp (od_eqK K (by exact hr.units)) (de_ixK K (by exact hr.units) (de_var (i := 0) (m := .bo)) de_int) de_str) (dw_and1 (dt_cmp (od_neK K (by exact hr.units)) (de_ixK K (by exact hr.units) (de_var (i := 0) (m := .bo)) de_int) de_str)))) (dss_one (ds_ret de_bl)) dss_nil) (dss_cons (ds_set (i := 2) (M1 := [.bo, .bo, .sh]) sc_is_rule.nd (de_callDK K T.d_far_of (ok_far_of T) (hr.mono (by decide)) (da_cons (m' := .bo) (de_ixK K (by exact hr.units) (de_var (i := 0) (m := .bo)) de_int) da_nil))) (dss_cons (ds_if (M1 := [.bo, .bo, .sh]) (DW.dt (dw_or (dt_not (dt_val (de_callDK K T.d_is_among (ok_is_among T) (hr.mono (by decide)) (da_cons (m' := .bo) (de_ixK K (by exact hr.units) (de_var (i := 0) (m := .bo)) de_int) (da_cons (m' := .bo) (de_neg (de_var (i := 2) (m := .sh))) (da_cons (m' := .bo) (de_var (i := 2) (m := .sh)) da_nil)))))) (dw_or1 (dt_not (dt_val (de_callDK K T.d_is_among (ok_is_among T) (hr.mono (by decide)) (da_cons (m' := .bo) (de_ixK K (by exact hr.units) (de_var (i := 0) (m := .bo)) de_int) (da_cons (m' := .bo) (de_neg (de_var (i := 2) (m := .sh))) (da_cons (m' := .bo) (de_var (i := 2) (m := .sh)) da_nil))))))))) (dss_one (ds_ret de_bl)) dss_nil) (dss_one (ds_ret (de_or (de_cmp (od_neK K (by exact hr.units)) (de_ixK K (by exact hr.units) (de_var (i := 0) (m := .bo)) de_int) de_int) (de_one (de_cmp (od_neK K (by exact hr.units)) (de_ixK K (by exact hr.units) (de_var (i := 0) (m := .bo)) de_int) de_int))))))))))⟩
theorem ok_are_pairs (T : Prg K mg) : FnOk P w K mg base CX0 1 T.d_are_pairs.f T.d_are_pairs.fd ["thing"] (spD K (gam T) [.bo] .sh den_are_pairs) := by
  refine fn_ok (N := ["thing", "pair"]) (s := sv_are_pairs) (M0 := [.bo, .sh]) (M' := [.bo, .sh]) T.d_are_pairs.fn sc_are_pairs rfl rfl rfl rfl rfl (fun cdv A outer s0 H E hr => ?_)
  exact ⟨_, _, (dss_cons (ds_if (M1 := [.bo, .sh]) (DW.dt (dw_or (dt_not (dt_val (de_callB (cd_isiK K) rfl T.z_isinstance (by decide +kernel) (da_cons (m' := .bo) (de_var (i := 0) (m := .bo)) (da_cons (m' := .sh) (de_ty (n := "list") T.z_list) da_nil))))) (dw_or1 (dt_cmp od_gt (de_callB (cd_lenK K) rfl T.z_len (by decide +kernel) (da_cons (m' := .bo) (de_var (i := 0) (m := .bo)) da_nil)) (de_gint T.c_MOST_PAIRS))))) (dss_one (ds_ret de_bl)) dss_nil) (dss_cons (ds_for PassesOwn.never rfl (di_anyK K (de_var (i := 0) (m := .bo))) (dg_name (i := 1) (M1 := [.bo, .sh]) sc_are_pairs.nd) (dss_cons (ds_if (M1 := [.bo, .sh]) (DW.dt (dw_or (dt_not (dt_val (de_callB (cd_isiK K) rfl T.z_isinstance (by decide +kernel) (da_cons (m' := .bo) (de_var (i := 1) (m := .sh)) (da_cons (m' := .sh) (de_ty (n := "tuple") T.z_tuple) da_nil))))) (dw_or1 (dt_cmp (od_neK K (by exact hr.units)) (de_callB (cd_lenK K) rfl T.z_len (by decide +kernel) (da_cons (m' := .bo) (de_var (i := 1) (m := .sh)) da_nil)) de_int)))) (dss_one (ds_ret de_bl)) dss_nil) (dss_wipe [1] dss_nil))) (dss_one (ds_ret de_bl))))⟩
theorem ok_is_turns (T : Prg K mg) : FnOk P w K mg base CX0 2 T.d_is_turns.f T.d_is_turns.fd ["thing", "kinds"] (spD K (gam T) [.bo, .bo] .sh den_is_turns) := by
  refine fn_ok (N := ["thing", "kinds", "firsts", "pair"]) (s := sv_is_turns) (M0 := [.bo, .bo, .sh, .sh]) (M' := [.bo, .bo, .sh, .sh]) T.d_is_turns.fn sc_is_turns rfl rfl rfl rfl rfl (fun cdv A outer s0 H E hr => ?_)
  exact ⟨_, _, (dss_cons (ds_if (M1 := [.bo, .bo, .sh, .sh]) (dt_not (dt_val (de_callDK K T.d_are_pairs (ok_are_pairs T) (hr.mono (by decide)) (da_cons (m' := .bo) (de_var (i := 0) (m := .bo)) da_nil)))) (dss_one (ds_ret de_bl)) dss_nil) (dss_cons (ds_set (i := 2) (M1 := [.bo, .bo, .ow, .sh]) sc_is_turns.nd (de_lst da_nil)) (dss_cons (ds_for PassesOwn.never rfl (di_anyK K (de_var (i := 0) (m := .bo))) (dg_name (i := 3) (M1 := [.bo, .bo, .ow, .sh]) sc_is_turns.nd) (dss_cons (ds_if (M1 := [.bo, .bo, .ow, .sh]) (DW.dt (dw_or (dt_cmp (od_ninK K (by exact hr.units)) (de_ixK K (by exact hr.units) (de_var (i := 3) (m := .sh)) de_int) (de_var (i := 1) (m := .bo))) (dw_or (dt_cmp (od_ninK K (by exact hr.units)) (de_ixK K (by exact hr.units) (de_var (i := 3) (m := .sh)) de_int) (de_var (i := 1) (m := .bo))) (dw_or (dt_cmp (od_eqK K (by exact hr.units)) (de_ixK K (by exact hr.units) (de_var (i := 3) (m := .sh)) de_int) (de_ixK K (by exact hr.units) (de_var (i := 3) (m := .sh)) de_int)) (dw_or1 (dt_cmp (od_inK K (by exact hr.units)) (de_ixK K (by exact hr.units) (de_var (i := 3) (m := .sh)) de_int) (de_var (i := 2) (m := .ow)))))))) (dss_one (ds_ret de_bl)) dss_nil) (dss_cons (ds_append (i := 2) rfl (de_ixK K (by exact hr.units) (de_var (i := 3) (m := .sh)) de_int)) (dss_wipe [3] dss_nil)))) (dss_wipe [1] (dss_cons (ds_for PassesOwn.never rfl (di_anyK K (de_var (i := 0) (m := .bo))) (dg_name (i := 3) (M1 := [.bo, .bo, .ow, .sh]) sc_is_turns.nd) (dss_cons (ds_if (M1 := [.bo, .bo, .ow, .sh]) (dt_cmp (od_inK K (by exact hr.units)) (de_ixK K (by exact hr.units) (de_var (i := 3) (m := .sh)) de_int) (de_var (i := 2) (m := .ow))) (dss_one (ds_ret de_bl)) dss_nil) (dss_wipe [3] dss_nil))) (dss_one (ds_ret de_bl)))))))⟩
theorem ok_is_ends (T : Prg K mg) : FnOk P w K mg base CX0 2 T.d_is_ends.f T.d_is_ends.fd ["thing", "kinds"] (spD K (gam T) [.bo, .bo] .sh den_is_ends) := by
  refine fn_ok (N := ["thing", "kinds", "pair"]) (s := sv_is_ends) (M0 := [.bo, .bo, .sh]) (M' := [.bo, .bo, .sh]) T.d_is_ends.fn sc_is_ends rfl rfl rfl rfl rfl (fun cdv A outer s0 H E hr => ?_)
  exact ⟨_, _, (dss_cons (ds_if (M1 := [.bo, .bo, .sh]) (dt_not (dt_val (de_callDK K T.d_are_pairs (ok_are_pairs T) (hr.mono (by decide)) (da_cons (m' := .bo) (de_var (i := 0) (m := .bo)) da_nil)))) (dss_one (ds_ret de_bl)) dss_nil) (dss_cons (ds_for PassesOwn.never rfl (di_anyK K (de_var (i := 0) (m := .bo))) (dg_name (i := 2) (M1 := [.bo, .bo, .sh]) sc_is_ends.nd) (dss_cons (ds_if (M1 := [.bo, .bo, .sh]) (DW.dt (dw_or (dt_cmp (od_ninK K (by exact hr.units)) (de_ixK K (by exact hr.units) (de_var (i := 2) (m := .sh)) de_int) (de_glob (v := .ref T.a_END_WORDS) rfl T.c_END_WORDS rfl (T.r_END_WORDS _))) (dw_or1 (dt_cmp (od_ninK K (by exact hr.units)) (de_ixK K (by exact hr.units) (de_var (i := 2) (m := .sh)) de_int) (de_var (i := 1) (m := .bo)))))) (dss_one (ds_ret de_bl)) dss_nil) (dss_wipe [2] dss_nil))) (dss_one (ds_ret de_bl))))⟩
theorem ok_are_kinds (T : Prg K mg) : FnOk P w K mg base CX0 2 T.d_are_kinds.f T.d_are_kinds.fd ["thing"] (spD K (gam T) [.bo] .sh den_are_kinds) := by
  refine fn_ok (N := ["thing", "kind"]) (s := sv_are_kinds) (M0 := [.bo, .sh]) (M' := [.bo, .sh]) T.d_are_kinds.fn sc_are_kinds rfl rfl rfl rfl rfl (fun cdv A outer s0 H E hr => ?_)
  exact ⟨_, _, (dss_cons (ds_if (M1 := [.bo, .sh]) (DW.dt (dw_or (dt_not (dt_val (de_callB (cd_isiK K) rfl T.z_isinstance (by decide +kernel) (da_cons (m' := .bo) (de_var (i := 0) (m := .bo)) (da_cons (m' := .sh) (de_ty (n := "list") T.z_list) da_nil))))) (dw_or1 (dt_not (dt_chain od_le od_le de_int (de_callB (cd_lenK K) rfl T.z_len (by decide +kernel) (da_cons (m' := .bo) (de_var (i := 0) (m := .bo)) da_nil)) (de_gint T.c_MOST_KINDS)))))) (dss_one (ds_ret de_bl)) dss_nil) (dss_cons (ds_for PassesOwn.never rfl (di_anyK K (de_var (i := 0) (m := .bo))) (dg_name (i := 1) (M1 := [.bo, .sh]) sc_are_kinds.nd) (dss_cons (ds_if (M1 := [.bo, .sh]) (dt_not (dt_val (de_callDK K T.d_is_letter (ok_is_letter T) (hr.mono (by decide)) (da_cons (m' := .bo) (de_var (i := 1) (m := .sh)) da_nil)))) (dss_one (ds_ret de_bl)) dss_nil) (dss_wipe [1] dss_nil))) (dss_one (ds_ret (de_cmp (od_eqK K (by exact hr.units)) (de_lenSet K rfl (by exact hr.units) T.z_len T.z_set (de_var (i := 0) (m := .bo))) (de_callB (cd_lenK K) rfl T.z_len (by decide +kernel) (da_cons (m' := .bo) (de_var (i := 0) (m := .bo)) da_nil)))))))⟩
theorem ok_are_rules (T : Prg K mg) : FnOk P w K mg base CX0 4 T.d_are_rules.f T.d_are_rules.fd ["thing", "kinds"] (spD K (gam T) [.bo, .bo] .sh den_are_rules) := by
  refine fn_ok (N := ["thing", "kinds", "rule"]) (s := sv_are_rules) (M0 := [.bo, .bo, .sh]) (M' := [.bo, .bo, .sh]) T.d_are_rules.fn sc_are_rules rfl rfl rfl rfl rfl (fun cdv A outer s0 H E hr => ?_)
  exact ⟨_, _, (dss_cons (ds_if (M1 := [.bo, .bo, .sh]) (DW.dt (dw_or (dt_not (dt_val (de_callB (cd_isiK K) rfl T.z_isinstance (by decide +kernel) (da_cons (m' := .bo) (de_var (i := 0) (m := .bo)) (da_cons (m' := .sh) (de_ty (n := "list") T.z_list) da_nil))))) (dw_or1 (dt_cmp od_gt (de_callB (cd_lenK K) rfl T.z_len (by decide +kernel) (da_cons (m' := .bo) (de_var (i := 0) (m := .bo)) da_nil)) (de_gint T.c_MOST_RULES))))) (dss_one (ds_ret de_bl)) dss_nil) (dss_cons (ds_for PassesOwn.never rfl (di_anyK K (de_var (i := 0) (m := .bo))) (dg_name (i := 2) (M1 := [.bo, .bo, .sh]) sc_are_rules.nd) (dss_cons (ds_if (M1 := [.bo, .bo, .sh]) (dt_not (dt_val (de_callDK K T.d_is_rule (ok_is_rule T) (hr.mono (by decide)) (da_cons (m' := .bo) (de_var (i := 2) (m := .sh)) (da_cons (m' := .bo) (de_var (i := 1) (m := .bo)) da_nil))))) (dss_one (ds_ret de_bl)) dss_nil) (dss_wipe [2] dss_nil))) (dss_one (ds_ret de_bl))))⟩
theorem ok_Game__init_ (T : Prg K mg) : FnOk P w K mg base CX0 5 T.d_Game__init_.f T.d_Game__init_.fd ["self", "board", "kinds", "rules", "turns", "ends", "stuck"] (spI K (gam T) "Game" [.sh, .bo, .bo, .bo, .bo, .sh] den_Game__init_) := by
  refine init_ok (N := ["self", "board", "kinds", "rules", "turns", "ends", "stuck"]) (s := sv_Game__init_) (M0 := [.ow, .sh, .bo, .bo, .bo, .bo, .sh]) (M' := [.ow, .sh, .bo, .bo, .bo, .bo, .sh]) T.d_Game__init_.fn sc_Game__init_ rfl rfl rfl rfl rfl rfl (fun cdv A outer s0 H E hr => ?_)
  exact ⟨_, _, (dss_cons (ds_if (M1 := [.ow, .sh, .bo, .bo, .bo, .bo, .sh]) (DW.dt (dw_or (dt_not (dt_val (de_callDK K T.d_are_kinds (ok_are_kinds T) (hr.mono (by decide)) (da_cons (m' := .bo) (de_var (i := 2) (m := .bo)) da_nil)))) (dw_or1 (dt_not (dt_val (de_callDK K T.d_are_rules (ok_are_rules T) (hr.mono (by decide)) (da_cons (m' := .bo) (de_var (i := 3) (m := .bo)) (da_cons (m' := .bo) (de_var (i := 2) (m := .bo)) da_nil)))))))) (dss_one ds_never) dss_nil) (dss_cons (ds_if (M1 := [.ow, .sh, .bo, .bo, .bo, .bo, .sh]) (DW.dt (dw_or (dt_not (dt_val (de_callDK K T.d_is_turns (ok_is_turns T) (hr.mono (by decide)) (da_cons (m' := .bo) (de_var (i := 4) (m := .bo)) (da_cons (m' := .bo) (de_var (i := 2) (m := .bo)) da_nil))))) (dw_or (dt_not (dt_val (de_callDK K T.d_is_ends (ok_is_ends T) (hr.mono (by decide)) (da_cons (m' := .bo) (de_var (i := 5) (m := .bo)) (da_cons (m' := .bo) (de_var (i := 2) (m := .bo)) da_nil))))) (dw_or1 (dt_cmp (od_ninK K (by exact hr.units)) (de_var (i := 6) (m := .sh)) (de_glob (v := .ref T.a_STUCK_WORDS) rfl T.c_STUCK_WORDS rfl (T.r_STUCK_WORDS _))))))) (dss_one ds_never) dss_nil) (dss_cons (ds_fldS K (i := 0) (cls_board T) rfl (de_var (i := 1) (m := .sh))) (dss_cons (ds_fldS K (i := 0) (cls_kinds T) rfl (de_callTy (cd_listK K (m := .ow) rfl) rfl T.z_list (by decide +kernel) (da_cons (m' := .bo) (de_var (i := 2) (m := .bo)) da_nil))) (dss_cons (ds_fldS K (i := 0) (cls_rules T) rfl (de_callTy (cd_listK K (m := .ow) rfl) rfl T.z_list (by decide +kernel) (da_cons (m' := .bo) (de_var (i := 3) (m := .bo)) da_nil))) (dss_cons (ds_fldS K (i := 0) (cls_turns T) rfl (de_callTy (cd_listK K (m := .ow) rfl) rfl T.z_list (by decide +kernel) (da_cons (m' := .bo) (de_var (i := 4) (m := .bo)) da_nil))) (dss_cons (ds_fldS K (i := 0) (cls_ends T) rfl (de_callTy (cd_listK K (m := .ow) rfl) rfl T.z_list (by decide +kernel) (da_cons (m' := .bo) (de_var (i := 5) (m := .bo)) da_nil))) (dss_cons (ds_fldS K (i := 0) (cls_stuck T) rfl (de_var (i := 6) (m := .sh))) (dss_wipe [1, 2, 3, 4, 5, 6] dss_nil)))))))))⟩
theorem ok_law_cell_at (T : Prg K mg) : FnOk P w K mg base CX0 1 T.d_law_cell_at.f T.d_law_cell_at.fd ["_law_script", "_law_k"] (spD K (gam T) [.bo, .bo] .sh den_law_cell_at) := by
  refine fn_ok (N := ["_law_script", "_law_k"]) (s := sv_law_cell_at) (M0 := [.bo, .bo]) (M' := [.bo, .bo]) T.d_law_cell_at.fn sc_law_cell_at rfl rfl rfl rfl rfl (fun cdv A outer s0 H E hr => ?_)
  exact ⟨_, _, (dss_cons (ds_if (M1 := [.bo, .bo]) (dt_cmp od_lt (de_var (i := 1) (m := .bo)) (de_callB (cd_lenK K) rfl T.z_len (by decide +kernel) (da_cons (m' := .bo) (de_var (i := 0) (m := .bo)) da_nil))) (dss_one (ds_ret (de_ixK K (by exact hr.units) (de_var (i := 0) (m := .bo)) (de_var (i := 1) (m := .bo))))) dss_nil) (dss_one (ds_ret de_int)))⟩
theorem ok_law_mixed (T : Prg K mg) : FnOk P w K mg base CX0 1 T.d_law_mixed.f T.d_law_mixed.fd ["_law_cell", "_law_k"] (spD K (gam T) [.bo, .bo] .sh den_law_mixed) := by
  refine fn_ok (N := ["_law_cell", "_law_k"]) (s := sv_law_mixed) (M0 := [.bo, .bo]) (M' := [.bo, .bo]) T.d_law_mixed.fn sc_law_mixed rfl rfl rfl rfl rfl (fun cdv A outer s0 H E hr => ?_)
  exact ⟨_, _, (dss_one (ds_ret (de_op od_mod (de_op od_mulI (de_op (od_addK K) (de_op (od_addK K) (de_var (i := 0) (m := .bo)) (de_op od_mulI de_int (de_var (i := 1) (m := .bo)))) de_int) de_int) de_int)))⟩
theorem ok_law_whole (T : Prg K mg) : FnOk P w K mg base CX0 1 T.d_law_whole.f T.d_law_whole.fd ["_law_thing"] (spD K (gam T) [.bo] .sh den_law_whole) := by
  refine fn_ok (N := ["_law_thing"]) (s := sv_law_whole) (M0 := [.bo]) (M' := [.bo]) T.d_law_whole.fn sc_law_whole rfl rfl rfl rfl rfl (fun cdv A outer s0 H E hr => ?_)
  exact ⟨_, _, (dss_one (ds_ret (de_and (de_callB (cd_isiK K) rfl T.z_isinstance (by decide +kernel) (da_cons (m' := .bo) (de_var (i := 0) (m := .bo)) (da_cons (m' := .sh) (de_ty (n := "int") T.z_int) da_nil))) (de_one (de_not (de_callB (cd_isiK K) rfl T.z_isinstance (by decide +kernel) (da_cons (m' := .bo) (de_var (i := 0) (m := .bo)) (da_cons (m' := .sh) (de_ty (n := "bool") T.z_bool) da_nil))))))))⟩
theorem ok_law_board (T : Prg K mg) : FnOk P w K mg base CX0 2 T.d_law_board.f T.d_law_board.fd ["_law_script"] (spD K (gam T) [.bo] .sh den_law_board) := by
  refine fn_ok (N := ["_law_script", "_law_cell", "_law_wide", "_law_high", "_law_holes", "_law_k", "_law_hole"]) (s := sv_law_board) (M0 := [.bo, .sh, .sh, .sh, .sh, .sh, .sh]) (M' := [.bo, .sh, .sh, .sh, .sh, .sh, .sh]) T.d_law_board.fn sc_law_board rfl rfl rfl rfl rfl (fun cdv A outer s0 H E hr => ?_)
  exact ⟨_, _, (dss_cons (ds_set (i := 1) (M1 := [.bo, .sh, .sh, .sh, .sh, .sh, .sh]) sc_law_board.nd (de_callDK K T.d_law_cell_at (ok_law_cell_at T) (hr.mono (by decide)) (da_cons (m' := .bo) (de_var (i := 0) (m := .bo)) (da_cons (m' := .bo) de_int da_nil)))) (dss_cons (ds_set (i := 2) (M1 := [.bo, .sh, .sh, .sh, .sh, .sh, .sh]) sc_law_board.nd (de_op (od_addK K) de_int (de_op od_mod (de_var (i := 1) (m := .sh)) de_int))) (dss_cons (ds_set (i := 3) (M1 := [.bo, .sh, .sh, .sh, .sh, .sh, .sh]) sc_law_board.nd (de_op (od_addK K) de_int (de_op od_mod (de_op od_div (de_var (i := 1) (m := .sh)) de_int) de_int))) (dss_cons (ds_if (M1 := [.bo, .sh, .sh, .sh, .sh, .sh, .sh]) (dt_cmp (od_eqK K (by exact hr.units)) (de_op od_mod (de_op od_div (de_var (i := 1) (m := .sh)) de_int) de_int) de_int) (dss_cons (ds_set (i := 2) (M1 := [.bo, .sh, .sh, .sh, .sh, .sh, .sh]) sc_law_board.nd (de_op (od_addK K) de_int (de_op od_mod (de_op od_div (de_var (i := 1) (m := .sh)) de_int) de_int))) (dss_cons (ds_set (i := 3) (M1 := [.bo, .sh, .sh, .sh, .sh, .sh, .sh]) sc_law_board.nd (de_op (od_addK K) de_int (de_op od_mod (de_op od_div (de_var (i := 1) (m := .sh)) de_int) de_int))) (dss_wipe [1] dss_nil))) (dss_wipe [1] dss_nil)) (dss_cons (ds_set (i := 1) (M1 := [.bo, .sh, .sh, .sh, .sh, .sh, .sh]) sc_law_board.nd (de_callDK K T.d_law_cell_at (ok_law_cell_at T) (hr.mono (by decide)) (da_cons (m' := .bo) (de_var (i := 0) (m := .bo)) (da_cons (m' := .bo) de_int da_nil)))) (dss_cons (ds_set (i := 4) (M1 := [.bo, .sh, .sh, .sh, .ow, .sh, .sh]) sc_law_board.nd (de_lst da_nil)) (dss_wipe [0] (dss_cons (ds_for PassesOwn.never rfl (di_rng1 T.z_range (da_cons (m' := .sh) (de_ixK K (by exact hr.units) (de_lst (da_cons (m' := .sh) de_int (da_cons (m' := .sh) de_int (da_cons (m' := .sh) de_int (da_cons (m' := .sh) de_int da_nil))))) (de_op od_mod (de_var (i := 1) (m := .sh)) de_int)) da_nil)) (dg_name (i := 5) (M1 := [.bo, .sh, .sh, .sh, .ow, .sh, .sh]) sc_law_board.nd) (dss_cons (ds_set (i := 6) (M1 := [.bo, .sh, .sh, .sh, .ow, .sh, .sh]) sc_law_board.nd (de_op od_mod (de_callDK K T.d_law_mixed (ok_law_mixed T) (hr.mono (by decide)) (da_cons (m' := .bo) (de_op od_div (de_var (i := 1) (m := .sh)) de_int) (da_cons (m' := .bo) (de_var (i := 5) (m := .sh)) da_nil))) (de_op od_mulI (de_var (i := 2) (m := .sh)) (de_var (i := 3) (m := .sh))))) (dss_cons (ds_if (M1 := [.bo, .sh, .sh, .sh, .ow, .sh, .sh]) (DW.dt (dw_and (dt_cmp (od_ninK K (by exact hr.units)) (de_var (i := 6) (m := .sh)) (de_var (i := 4) (m := .ow))) (dw_and1 (dt_cmp od_lt (de_op (od_addK K) (de_callB (cd_lenK K) rfl T.z_len (by decide +kernel) (da_cons (m' := .bo) (de_var (i := 4) (m := .ow)) da_nil)) de_int) (de_op od_mulI (de_var (i := 2) (m := .sh)) (de_var (i := 3) (m := .sh))))))) (dss_cons (ds_append (i := 4) rfl (de_var (i := 6) (m := .sh))) (dss_wipe [5, 6] dss_nil)) (dss_wipe [5, 6] dss_nil)) dss_nil))) (dss_freeze (M1 := [.bo, .sh, .sh, .sh, .sh, .sh, .sh]) 4 (dss_one (ds_ret (de_tup (da_cons (m' := .sh) (de_var (i := 2) (m := .sh)) (da_cons (m' := .sh) (de_var (i := 3) (m := .sh)) (da_cons (m' := .sh) (de_var (i := 4) (m := .sh)) da_nil)))))))))))))))⟩
theorem ok_law_kinds (T : Prg K mg) : FnOk P w K mg base CX0 1 T.d_law_kinds.f T.d_law_kinds.fd ["_law_cell"] (spD K (gam T) [.bo] .ow den_law_kinds) := by
  refine fn_ok (N := ["_law_cell", "_law_letters", "_law_step", "_law_k"]) (s := sv_law_kinds) (M0 := [.bo, .sh, .sh, .sh]) (M' := [.bo, .sh, .sh, .sh]) T.d_law_kinds.fn sc_law_kinds rfl rfl rfl rfl rfl (fun cdv A outer s0 H E hr => ?_)
  exact ⟨_, _, (dss_cons (ds_set (i := 1) (M1 := [.bo, .sh, .sh, .sh]) sc_law_kinds.nd de_str) (dss_cons (ds_set (i := 2) (M1 := [.bo, .sh, .sh, .sh]) sc_law_kinds.nd (de_ixK K (by exact hr.units) (de_lst (da_cons (m' := .sh) de_int (da_cons (m' := .sh) de_int (da_cons (m' := .sh) de_int (da_cons (m' := .sh) de_int (da_cons (m' := .sh) de_int (da_cons (m' := .sh) de_int da_nil))))))) (de_op od_mod (de_op od_div (de_var (i := 0) (m := .bo)) de_int) de_int))) (dss_one (ds_ret (de_lc (own := [("_law_k", 3)]) rfl sc_law_kinds.nd (blkOk_by (N := ["_law_cell", "_law_letters", "_law_step", "_law_k"]) (sc := defScope s_law_kinds) (by decide +kernel)) (DI.c (di_rng1 T.z_range (da_cons (m' := .sh) (de_ixK K (by exact hr.units) (de_lst (da_cons (m' := .sh) de_int (da_cons (m' := .sh) de_int (da_cons (m' := .sh) de_int (da_cons (m' := .sh) de_int (da_cons (m' := .sh) de_int (da_cons (m' := .sh) de_int (da_cons (m' := .sh) de_int (da_cons (m' := .sh) de_int da_nil))))))))) (de_op od_mod (de_var (i := 0) (m := .bo)) de_int)) da_nil))) (fun _ _ _ _ _ => (dg_name (i := 3) (M1 := [.bo, .sh, .sh, .sh]) sc_law_kinds.nd)) (fun _ _ _ _ _ => dts_nil) (fun _ _ _ _ _ => (de_ixK K (by exact hr.units) (de_var (i := 1) (m := .sh)) (de_op od_mod (de_op (od_addK K) (de_op od_div (de_var (i := 0) (m := .bo)) de_int) (de_op od_mulI (de_var (i := 2) (m := .sh)) (de_var (i := 3) (m := .sh)))) de_int))))))))⟩
theorem ok_law_row (T : Prg K mg) : FnOk P w K mg base CX0 2 T.d_law_row.f T.d_law_row.fd ["_law_script", "_law_game", "_law_start"] (spD K (gam T) [.bo, .bo, .bo] .sh den_law_row) := by
  refine fn_ok (N := ["_law_script", "_law_game", "_law_start", "_law_size", "_law_free", "_law_signs", "_law_cell", "_law_cells", "_law_spots", "_law_k", "_law_square", "_law_more", "_law_kind"]) (s := sv_law_row) (M0 := [.bo, .bo, .bo, .sh, .sh, .sh, .sh, .sh, .sh, .sh, .sh, .sh, .sh]) (M' := [.bo, .bo, .bo, .sh, .sh, .sh, .sh, .sh, .sh, .sh, .sh, .sh, .sh]) T.d_law_row.fn sc_law_row rfl rfl rfl rfl rfl (fun cdv A outer s0 H E hr => ?_)
  exact ⟨_, _, (dss_cons (ds_set (i := 3) (M1 := [.bo, .bo, .bo, .sh, .sh, .sh, .sh, .sh, .sh, .sh, .sh, .sh, .sh]) sc_law_row.nd (de_op od_mulI (de_fldK K (cls_wide T) (de_fldK K (cls_board T) (de_var (i := 1) (m := .bo)))) (de_fldK K (cls_high T) (de_fldK K (cls_board T) (de_var (i := 1) (m := .bo)))))) (dss_cons (ds_set (i := 4) (M1 := [.bo, .bo, .bo, .sh, .sh, .sh, .sh, .sh, .sh, .sh, .sh, .sh, .sh]) sc_law_row.nd (DE.sh (de_lc (own := [("_law_square", 10)]) rfl sc_law_row.nd (blkOk_by (N := ["_law_script", "_law_game", "_law_start", "_law_size", "_law_free", "_law_signs", "_law_cell", "_law_cells", "_law_spots", "_law_k", "_law_square", "_law_more", "_law_kind"]) (sc := defScope s_law_row) (by decide +kernel)) (DI.c (di_rng1 T.z_range (da_cons (m' := .sh) (de_var (i := 3) (m := .sh)) da_nil))) (fun _ _ _ _ _ => (dg_name (i := 10) (M1 := [.bo, .bo, .bo, .sh, .sh, .sh, .sh, .sh, .sh, .sh, .sh, .sh, .sh]) sc_law_row.nd)) (fun _ _ _ _ _ => (dts_one (dt_cmp (od_ninK K (by exact hr.units)) (de_var (i := 10) (m := .sh)) (de_fldK K (cls_holes T) (de_fldK K (cls_board T) (de_var (i := 1) (m := .bo))))))) (fun _ _ _ _ _ => (de_var (i := 10) (m := .sh)))))) (dss_cons (ds_setLc (i := 5) (Mz := [.bo, .bo, .bo, .sh, .sh, .ow, .sh, .sh, .sh, .sh, .sh, .sh, .sh]) (own := [("_law_square", 10)]) rfl sc_law_row.nd (blkOk_by (N := ["_law_script", "_law_game", "_law_start", "_law_size", "_law_free", "_law_signs", "_law_cell", "_law_cells", "_law_spots", "_law_k", "_law_square", "_law_more", "_law_kind"]) (sc := defScope s_law_row) (by decide +kernel)) (DI.c (di_rng1 T.z_range (da_cons (m' := .sh) (de_var (i := 3) (m := .sh)) da_nil))) (fun _ _ _ _ _ => (dg_name (i := 10) (M1 := [.bo, .bo, .bo, .sh, .sh, .sh, .sh, .sh, .sh, .sh, .sh, .sh, .sh]) sc_law_row.nd)) (fun _ _ _ _ _ => dts_nil) (fun _ _ _ _ _ => (de_ixK K (by exact hr.units) de_str (de_callTy cd_int rfl T.z_int (by decide +kernel) (da_cons (m' := .sh) (de_cmp (od_inK K (by exact hr.units)) (de_var (i := 10) (m := .sh)) (de_fldK K (cls_holes T) (de_fldK K (cls_board T) (de_var (i := 1) (m := .bo))))) da_nil))))) (dss_cons (ds_set (i := 6) (M1 := [.bo, .bo, .bo, .sh, .sh, .ow, .sh, .sh, .sh, .sh, .sh, .sh, .sh]) sc_law_row.nd (de_callDK K T.d_law_cell_at (ok_law_cell_at T) (hr.mono (by decide)) (da_cons (m' := .bo) (de_var (i := 0) (m := .bo)) (da_cons (m' := .bo) (de_var (i := 2) (m := .bo)) da_nil)))) (dss_cons (ds_setLc (i := 7) (Mz := [.bo, .bo, .bo, .sh, .sh, .ow, .sh, .ow, .sh, .sh, .sh, .sh, .sh]) (own := [("_law_k", 9)]) rfl sc_law_row.nd (blkOk_by (N := ["_law_script", "_law_game", "_law_start", "_law_size", "_law_free", "_law_signs", "_law_cell", "_law_cells", "_law_spots", "_law_k", "_law_square", "_law_more", "_law_kind"]) (sc := defScope s_law_row) (by decide +kernel)) (DI.c (di_rng1 T.z_range (da_cons (m' := .sh) de_int da_nil))) (fun _ _ _ _ _ => (dg_name (i := 9) (M1 := [.bo, .bo, .bo, .sh, .sh, .ow, .sh, .sh, .sh, .sh, .sh, .sh, .sh]) sc_law_row.nd)) (fun _ _ _ _ _ => dts_nil) (fun _ _ _ _ _ => (de_callDK K T.d_law_mixed (ok_law_mixed T) (hr.mono (by decide)) (da_cons (m' := .bo) (de_callDK K T.d_law_cell_at (ok_law_cell_at T) (hr.mono (by decide)) (da_cons (m' := .bo) (de_var (i := 0) (m := .bo)) (da_cons (m' := .bo) (de_op (od_addK K) (de_op (od_addK K) (de_var (i := 2) (m := .bo)) de_int) (de_var (i := 9) (m := .sh))) da_nil))) (da_cons (m' := .bo) (de_var (i := 9) (m := .sh)) da_nil))))) (dss_cons (ds_setLc (i := 8) (Mz := [.bo, .bo, .bo, .sh, .sh, .ow, .sh, .ow, .ow, .sh, .sh, .sh, .sh]) (own := [("_law_more", 11)]) rfl sc_law_row.nd (blkOk_by (N := ["_law_script", "_law_game", "_law_start", "_law_size", "_law_free", "_law_signs", "_law_cell", "_law_cells", "_law_spots", "_law_k", "_law_square", "_law_more", "_law_kind"]) (sc := defScope s_law_row) (by decide +kernel)) (dic_anyK K (de_slK K (de_var (i := 7) (m := .ow)) do_none (do_some (de_op (od_addK K) de_int (de_op od_mod (de_var (i := 6) (m := .sh)) de_int))))) (fun _ _ _ _ _ => (dg_name (i := 11) (M1 := [.bo, .bo, .bo, .sh, .sh, .ow, .sh, .ow, .sh, .sh, .sh, .sh, .sh]) sc_law_row.nd)) (fun _ _ _ _ _ => dts_nil) (fun _ _ _ _ _ => (de_ixK K (by exact hr.units) (de_var (i := 4) (m := .sh)) (de_op od_mod (de_var (i := 11) (m := .sh)) (de_callB (cd_lenK K) rfl T.z_len (by decide +kernel) (da_cons (m' := .bo) (de_var (i := 4) (m := .sh)) da_nil)))))) (dss_cons (ds_if (M1 := [.bo, .bo, .bo, .sh, .sh, .ow, .sh, .ow, .sh, .sh, .sh, .sh, .sh]) (dt_cmp (od_eqK K (by exact hr.units)) (de_op od_mod (de_op od_div (de_var (i := 6) (m := .sh)) de_int) de_int) de_int) (dss_cons (ds_set (i := 8) (M1 := [.bo, .bo, .bo, .sh, .sh, .ow, .sh, .ow, .sh, .sh, .sh, .sh, .sh]) sc_law_row.nd (de_slK K (de_var (i := 4) (m := .sh)) do_none (do_some de_int))) (dss_wipe [0, 2, 3, 4] dss_nil)) (DSs.frozen (M1 := [.bo, .bo, .bo, .sh, .sh, .ow, .sh, .ow, .sh, .sh, .sh, .sh, .sh]) 8 (dss_wipe [0, 2, 3, 4] dss_nil))) (dss_cons (ds_if (M1 := [.bo, .bo, .bo, .sh, .sh, .ow, .sh, .ow, .sh, .sh, .sh, .sh, .sh]) (dt_cmp (od_eqK K (by exact hr.units)) (de_op od_mod (de_op od_div (de_var (i := 6) (m := .sh)) de_int) de_int) de_int) (dss_cons (ds_set (i := 8) (M1 := [.bo, .bo, .bo, .sh, .sh, .ow, .sh, .ow, .sh, .sh, .sh, .sh, .sh]) sc_law_row.nd (DE.sh (de_lst da_nil))) (dss_wipe [6] dss_nil)) (dss_wipe [6] dss_nil)) (dss_cons (ds_for PassesOwn.never rfl (di_enumerate K T.z_enumerate (da_cons (m' := .sh) (de_var (i := 8) (m := .sh)) da_nil)) (dg_tupK K rfl (dgs_cons (dg_name (i := 9) (M1 := [.bo, .bo, .bo, .sh, .sh, .ow, .sh, .ow, .sh, .sh, .sh, .sh, .sh]) sc_law_row.nd) (dgs_cons (dg_name (i := 10) (M1 := [.bo, .bo, .bo, .sh, .sh, .ow, .sh, .ow, .sh, .sh, .sh, .sh, .sh]) sc_law_row.nd) dgs_nil))) (dss_cons (ds_set (i := 11) (M1 := [.bo, .bo, .bo, .sh, .sh, .ow, .sh, .ow, .sh, .sh, .sh, .sh, .sh]) sc_law_row.nd (de_op (od_addK K) (de_ixK K (by exact hr.units) (de_var (i := 7) (m := .ow)) (de_op od_mod (de_var (i := 9) (m := .sh)) de_int)) (de_op od_mulI de_int (de_op od_div (de_var (i := 9) (m := .sh)) de_int)))) (dss_cons (ds_set (i := 12) (M1 := [.bo, .bo, .bo, .sh, .sh, .ow, .sh, .ow, .sh, .sh, .sh, .sh, .sh]) sc_law_row.nd (de_ixK K (by exact hr.units) (de_fldK K (cls_kinds T) (de_var (i := 1) (m := .bo))) (de_op od_mod (de_op od_div (de_var (i := 11) (m := .sh)) de_int) (de_callB (cd_lenK K) rfl T.z_len (by decide +kernel) (da_cons (m' := .bo) (de_fldK K (cls_kinds T) (de_var (i := 1) (m := .bo))) da_nil))))) (dss_cons (ds_put (i := 5) rfl (by exact hr.units) (de_var (i := 10) (m := .sh)) (de_ixK K (by exact hr.units) (de_lst (da_cons (m' := .sh) (de_bm0 K PySem.F.slot_str_upper PySem.F.type_str_upper md_upper (de_var (i := 12) (m := .sh))) (da_cons (m' := .sh) (de_var (i := 12) (m := .sh)) da_nil))) (de_op od_mod (de_op od_div (de_var (i := 11) (m := .sh)) de_int) de_int))) (dss_wipe [9, 10, 11, 12] dss_nil))))) (dss_one (ds_ret (de_bm K PySem.F.slot_str_join PySem.F.type_str_join (md_join K) de_str (da_cons (m' := .bo) (de_var (i := 5) (m := .ow)) da_nil)))))))))))))⟩
theorem ok_law_lines (T : Prg K mg) : FnOk P w K mg base CX0 1 T.d_law_lines.f T.d_law_lines.fd ["_law_place", "_law_wide", "_law_high"] (spD K (gam T) [.bo, .bo, .sh] .ow den_law_lines) := by
  refine fn_ok (N := ["_law_place", "_law_wide", "_law_high", "_law_lines_here", "_law_k", "_law_begin"]) (s := sv_law_lines) (M0 := [.bo, .bo, .sh, .sh, .sh, .sh]) (M' := [.bo, .bo, .sh, .sh, .sh, .sh]) T.d_law_lines.fn sc_law_lines rfl rfl rfl rfl rfl (fun cdv A outer s0 H E hr => ?_)
  exact ⟨_, _, (dss_cons (ds_set (i := 3) (M1 := [.bo, .bo, .sh, .ow, .sh, .sh]) sc_law_lines.nd (de_lst da_nil)) (dss_cons (ds_for PassesOwn.never rfl (di_rng1 T.z_range (da_cons (m' := .sh) (de_var (i := 2) (m := .sh)) da_nil)) (dg_name (i := 4) (M1 := [.bo, .bo, .sh, .ow, .sh, .sh]) sc_law_lines.nd) (dss_cons (ds_set (i := 5) (M1 := [.bo, .bo, .sh, .ow, .sh, .sh]) sc_law_lines.nd (de_op od_mulI (de_op od_sub (de_op od_sub (de_var (i := 2) (m := .sh)) de_int) (de_var (i := 4) (m := .sh))) (de_var (i := 1) (m := .bo)))) (dss_cons (ds_append (i := 3) rfl (de_slK K (de_ixK K (by exact hr.units) (de_var (i := 0) (m := .bo)) de_int) (do_some (de_var (i := 5) (m := .sh))) (do_some (de_op (od_addK K) (de_var (i := 5) (m := .sh)) (de_var (i := 1) (m := .bo)))))) (dss_wipe [4, 5] dss_nil)))) (dss_one (ds_ret (de_op od_cat (de_var (i := 3) (m := .ow)) (de_lst (da_cons (m' := .sh) (de_ixK K (by exact hr.units) (de_lst (da_cons (m' := .sh) de_str (da_cons (m' := .sh) de_str da_nil))) (de_ixK K (by exact hr.units) (de_var (i := 0) (m := .bo)) de_int)) da_nil)))))))⟩
theorem ok_law_line_changed (T : Prg K mg) : FnOk P w K mg base CX0 1 T.d_law_line_changed.f T.d_law_line_changed.fd ["_law_lines_here", "_law_cell", "_law_kinds_here"] (spD K (gam T) [.bo, .bo, .bo] .ow den_law_line_changed) := by
  refine fn_ok (N := ["_law_lines_here", "_law_cell", "_law_kinds_here", "_law_at", "_law_one", "_law_place", "_law_signs", "_law_sign"]) (s := sv_law_line_changed) (M0 := [.bo, .bo, .bo, .sh, .sh, .sh, .sh, .sh]) (M' := [.bo, .bo, .bo, .sh, .sh, .sh, .sh, .sh]) T.d_law_line_changed.fn sc_law_line_changed rfl rfl rfl rfl rfl (fun cdv A outer s0 H E hr => ?_)
  exact ⟨_, _, (dss_cons (ds_set (i := 3) (M1 := [.bo, .bo, .bo, .sh, .sh, .sh, .sh, .sh]) sc_law_line_changed.nd (de_op od_mod (de_op od_div (de_var (i := 1) (m := .bo)) de_int) (de_callB (cd_lenK K) rfl T.z_len (by decide +kernel) (da_cons (m' := .bo) (de_var (i := 0) (m := .bo)) da_nil)))) (dss_cons (ds_set (i := 4) (M1 := [.bo, .bo, .bo, .sh, .sh, .sh, .sh, .sh]) sc_law_line_changed.nd (de_ixK K (by exact hr.units) (de_var (i := 0) (m := .bo)) (de_var (i := 3) (m := .sh)))) (dss_cons (ds_set (i := 5) (M1 := [.bo, .bo, .bo, .sh, .sh, .sh, .sh, .sh]) sc_law_line_changed.nd (de_op od_mod (de_op od_div (de_var (i := 1) (m := .bo)) de_int) (de_op (od_addK K) (de_callB (cd_lenK K) rfl T.z_len (by decide +kernel) (da_cons (m' := .bo) (de_var (i := 4) (m := .sh)) da_nil)) de_int))) (dss_cons (ds_set (i := 6) (M1 := [.bo, .bo, .bo, .sh, .sh, .sh, .sh, .sh]) sc_law_line_changed.nd (de_op (od_addK K) (de_op (od_addK K) (de_op (od_addK K) de_str (de_bm K PySem.F.slot_str_join PySem.F.type_str_join (md_join K) de_str (da_cons (m' := .bo) (de_var (i := 2) (m := .bo)) da_nil))) (de_bm0 K PySem.F.slot_str_upper PySem.F.type_str_upper md_upper (de_bm K PySem.F.slot_str_join PySem.F.type_str_join (md_join K) de_str (da_cons (m' := .bo) (de_var (i := 2) (m := .bo)) da_nil)))) de_str)) (dss_cons (ds_set (i := 7) (M1 := [.bo, .bo, .bo, .sh, .sh, .sh, .sh, .sh]) sc_law_line_changed.nd (de_ixK K (by exact hr.units) (de_var (i := 6) (m := .sh)) (de_op od_mod (de_op od_div (de_var (i := 1) (m := .bo)) de_int) (de_callB (cd_lenK K) rfl T.z_len (by decide +kernel) (da_cons (m' := .bo) (de_var (i := 6) (m := .sh)) da_nil))))) (dss_cons (ds_set (i := 4) (M1 := [.bo, .bo, .bo, .sh, .ow, .sh, .sh, .sh]) sc_law_line_changed.nd (de_lst (da_cons (m' := .sh) (de_op (od_addK K) (de_op (od_addK K) (de_slK K (de_var (i := 4) (m := .sh)) do_none (do_some (de_var (i := 5) (m := .sh)))) (de_var (i := 7) (m := .sh))) (de_slK K (de_var (i := 4) (m := .sh)) (do_some (de_var (i := 5) (m := .sh))) do_none)) (da_cons (m' := .sh) (de_op (od_addK K) (de_slK K (de_var (i := 4) (m := .sh)) do_none (do_some (de_var (i := 5) (m := .sh)))) (de_slK K (de_var (i := 4) (m := .sh)) (do_some (de_op (od_addK K) (de_var (i := 5) (m := .sh)) de_int)) do_none)) (da_cons (m' := .sh) (de_op (od_addK K) (de_op (od_addK K) (de_slK K (de_var (i := 4) (m := .sh)) do_none (do_some (de_var (i := 5) (m := .sh)))) (de_var (i := 7) (m := .sh))) (de_slK K (de_var (i := 4) (m := .sh)) (do_some (de_op (od_addK K) (de_var (i := 5) (m := .sh)) de_int)) do_none)) da_nil))))) (dss_cons (ds_set (i := 4) (M1 := [.bo, .bo, .bo, .sh, .sh, .sh, .sh, .sh]) sc_law_line_changed.nd (de_ixK K (by exact hr.units) (de_var (i := 4) (m := .ow)) (de_op od_mod (de_op od_div (de_var (i := 1) (m := .bo)) de_int) de_int))) (dss_one (ds_ret (de_op od_cat (de_op od_cat (de_slK K (de_var (i := 0) (m := .bo)) do_none (do_some (de_var (i := 3) (m := .sh)))) (de_lst (da_cons (m' := .sh) (de_var (i := 4) (m := .sh)) da_nil))) (de_slK K (de_var (i := 0) (m := .bo)) (do_some (de_op (od_addK K) (de_var (i := 3) (m := .sh)) de_int)) do_none)))))))))))⟩
theorem ok_law_changed (T : Prg K mg) : FnOk P w K mg base CX0 2 T.d_law_changed.f T.d_law_changed.fd ["_law_lines_here", "_law_cell", "_law_kinds_here"] (spD K (gam T) [.sh, .bo, .bo] .sh den_law_changed) := by
  refine fn_ok (N := ["_law_lines_here", "_law_cell", "_law_kinds_here", "_law_kind", "_law_at"]) (s := sv_law_changed) (M0 := [.sh, .bo, .bo, .sh, .sh]) (M' := [.sh, .bo, .bo, .sh, .sh]) T.d_law_changed.fn sc_law_changed rfl rfl rfl rfl rfl (fun cdv A outer s0 H E hr => ?_)
  exact ⟨_, _, (dss_cons (ds_set (i := 3) (M1 := [.sh, .bo, .bo, .sh, .sh]) sc_law_changed.nd (de_op od_mod (de_var (i := 1) (m := .bo)) de_int)) (dss_cons (ds_set (i := 4) (M1 := [.sh, .bo, .bo, .sh, .sh]) sc_law_changed.nd (de_op od_mod (de_op od_div (de_var (i := 1) (m := .bo)) de_int) (de_callB (cd_lenK K) rfl T.z_len (by decide +kernel) (da_cons (m' := .bo) (de_var (i := 0) (m := .sh)) da_nil)))) (dss_cons (ds_if (M1 := [.sh, .bo, .bo, .sh, .sh]) (dt_cmp (od_eqK K (by exact hr.units)) (de_var (i := 3) (m := .sh)) de_int) (dss_one (ds_ret (de_op (od_addK K) (de_slK K (de_var (i := 0) (m := .sh)) do_none (do_some (de_var (i := 4) (m := .sh)))) (de_slK K (de_var (i := 0) (m := .sh)) (do_some (de_op (od_addK K) (de_var (i := 4) (m := .sh)) de_int)) do_none)))) dss_nil) (dss_cons (ds_if (M1 := [.sh, .bo, .bo, .sh, .sh]) (dt_cmp (od_eqK K (by exact hr.units)) (de_var (i := 3) (m := .sh)) de_int) (dss_one (ds_ret (de_op (od_addK K) (de_op (od_addK K) (de_slK K (de_var (i := 0) (m := .sh)) do_none (do_some (de_var (i := 4) (m := .sh)))) (de_slK K (de_var (i := 0) (m := .sh)) (do_some (de_var (i := 4) (m := .sh))) (do_some (de_op (od_addK K) (de_var (i := 4) (m := .sh)) de_int)))) (de_slK K (de_var (i := 0) (m := .sh)) (do_some (de_var (i := 4) (m := .sh))) do_none)))) dss_nil) (dss_cons (ds_if (M1 := [.sh, .bo, .bo, .sh, .sh]) (dt_cmp (od_eqK K (by exact hr.units)) (de_var (i := 3) (m := .sh)) de_int) (dss_one (ds_ret (de_op (od_addK K) (de_slK K (de_var (i := 0) (m := .sh)) (do_some (de_var (i := 4) (m := .sh))) do_none) (de_slK K (de_var (i := 0) (m := .sh)) do_none (do_some (de_var (i := 4) (m := .sh))))))) dss_nil) (dss_cons (ds_if (M1 := [.sh, .bo, .bo, .sh, .sh]) (dt_cmp (od_eqK K (by exact hr.units)) (de_var (i := 3) (m := .sh)) de_int) (dss_one (ds_ret (DE.sh (de_op od_cat (de_slK K (de_var (i := 0) (m := .sh)) do_none (do_some (de_neg de_int))) (de_lst (da_cons (m' := .sh) (de_ixK K (by exact hr.units) (de_lst (da_cons (m' := .sh) de_str (da_cons (m' := .sh) de_str (da_cons (m' := .sh) de_str (da_cons (m' := .sh) de_str (da_cons (m' := .sh) de_str (da_cons (m' := .sh) de_str (da_cons (m' := .sh) de_str (da_cons (m' := .sh) de_str da_nil))))))))) (de_op od_mod (de_op od_div (de_var (i := 1) (m := .bo)) de_int) de_int)) da_nil)))))) dss_nil) (dss_cons (ds_if (M1 := [.sh, .bo, .bo, .sh, .sh]) (DW.dt (dw_and (dt_cmp (od_eqK K (by exact hr.units)) (de_var (i := 3) (m := .sh)) de_int) (dw_and1 (dt_cmp (od_eqK K (by exact hr.units)) (de_op od_mod (de_op od_div (de_var (i := 1) (m := .bo)) de_int) de_int) de_int)))) (dss_one (ds_ret (DE.sh (de_lst da_nil)))) dss_nil) (dss_cons (ds_if (M1 := [.sh, .bo, .bo, .sh, .sh]) (DW.dt (dw_and (dt_cmp (od_eqK K (by exact hr.units)) (de_var (i := 3) (m := .sh)) de_int) (dw_and1 (dt_cmp od_gt (de_callB (cd_lenK K) rfl T.z_len (by decide +kernel) (da_cons (m' := .bo) (de_var (i := 0) (m := .sh)) da_nil)) de_int)))) (dss_cons (ds_set (i := 4) (M1 := [.sh, .bo, .bo, .sh, .sh]) sc_law_changed.nd (de_op od_mod (de_op od_div (de_var (i := 1) (m := .bo)) de_int) (de_op od_sub (de_callB (cd_lenK K) rfl T.z_len (by decide +kernel) (da_cons (m' := .bo) (de_var (i := 0) (m := .sh)) da_nil)) de_int))) (dss_one (ds_ret (DE.sh (de_op od_cat (de_op od_cat (de_slK K (de_var (i := 0) (m := .sh)) do_none (do_some (de_var (i := 4) (m := .sh)))) (de_lst (da_cons (m' := .sh) (de_slK K (de_ixK K (by exact hr.units) (de_var (i := 0) (m := .sh)) (de_var (i := 4) (m := .sh))) do_none (do_some (de_neg de_int))) (da_cons (m' := .sh) (de_op (od_addK K) (de_slK K (de_ixK K (by exact hr.units) (de_var (i := 0) (m := .sh)) (de_var (i := 4) (m := .sh))) (do_some (de_neg de_int)) do_none) (de_ixK K (by exact hr.units) (de_var (i := 0) (m := .sh)) (de_op (od_addK K) (de_var (i := 4) (m := .sh)) de_int))) da_nil)))) (de_slK K (de_var (i := 0) (m := .sh)) (do_some (de_op (od_addK K) (de_var (i := 4) (m := .sh)) de_int)) do_none)))))) dss_nil) (dss_cons (ds_if (M1 := [.sh, .bo, .bo, .sh, .sh]) (dt_cmp od_gt (de_var (i := 3) (m := .sh)) de_int) (dss_one (ds_ret (de_var (i := 0) (m := .sh)))) dss_nil) (dss_one (ds_ret (DE.sh (de_callDK K T.d_law_line_changed (ok_law_line_changed T) (hr.mono (by decide)) (da_cons (m' := .bo) (de_var (i := 0) (m := .sh)) (da_cons (m' := .bo) (de_var (i := 1) (m := .bo)) (da_cons (m' := .bo) (de_var (i := 2) (m := .bo)) da_nil))))))))))))))))⟩
theorem ok_law_read (T : Prg K mg) : FnOk P w K mg base CX0 1 T.d_law_read.f T.d_law_read.fd ["_law_lines_here", "_law_wide", "_law_high", "_law_holes", "_law_kinds_here"] (spD K (gam T) [.bo, .bo, .bo, .bo, .bo] .sh den_law_read) := by
  refine fn_ok (N := ["_law_lines_here", "_law_wide", "_law_high", "_law_holes", "_law_kinds_here", "_law_row_here", "_law_one", "_law_pieces", "_law_square", "_law_kind"]) (s := sv_law_read) (M0 := [.bo, .bo, .bo, .bo, .bo, .sh, .sh, .sh, .sh, .sh]) (M' := [.bo, .bo, .bo, .bo, .bo, .sh, .sh, .sh, .sh, .sh]) T.d_law_read.fn sc_law_read rfl rfl rfl rfl rfl (fun cdv A outer s0 H E hr => ?_)
  exact ⟨_, _, (dss_cons (ds_if (M1 := [.bo, .bo, .bo, .bo, .bo, .sh, .sh, .sh, .sh, .sh]) (DW.dt (dw_or (dt_cmp (od_neK K (by exact hr.units)) (de_callB (cd_lenK K) rfl T.z_len (by decide +kernel) (da_cons (m' := .bo) (de_var (i := 0) (m := .bo)) da_nil)) (de_op (od_addK K) (de_var (i := 2) (m := .bo)) de_int)) (dw_or1 (dt_cmp (od_ninK K (by exact hr.units)) (de_ixK K (by exact hr.units) (de_var (i := 0) (m := .bo)) (de_neg de_int)) (de_lst (da_cons (m' := .sh) de_str (da_cons (m' := .sh) de_str da_nil))))))) (dss_one (ds_ret de_non)) dss_nil) (dss_cons (ds_set (i := 5) (M1 := [.bo, .bo, .bo, .bo, .bo, .sh, .sh, .sh, .sh, .sh]) sc_law_read.nd de_str) (dss_cons (ds_for PassesOwn.never rfl (di_anyK K (de_slK K (de_var (i := 0) (m := .bo)) do_none (do_some (de_neg de_int)))) (dg_name (i := 6) (M1 := [.bo, .bo, .bo, .bo, .bo, .sh, .sh, .sh, .sh, .sh]) sc_law_read.nd) (dss_cons (ds_if (M1 := [.bo, .bo, .bo, .bo, .bo, .sh, .sh, .sh, .sh, .sh]) (dt_cmp (od_neK K (by exact hr.units)) (de_callB (cd_lenK K) rfl T.z_len (by decide +kernel) (da_cons (m' := .bo) (de_var (i := 6) (m := .sh)) da_nil)) (de_var (i := 1) (m := .bo))) (dss_one (ds_ret de_non)) dss_nil) (dss_cons (ds_set (i := 5) (M1 := [.bo, .bo, .bo, .bo, .bo, .sh, .sh, .sh, .sh, .sh]) sc_law_read.nd (de_op (od_addK K) (de_var (i := 6) (m := .sh)) (de_var (i := 5) (m := .sh)))) (dss_wipe [6] dss_nil)))) (dss_cons (ds_set (i := 7) (M1 := [.bo, .bo, .bo, .bo, .bo, .sh, .sh, .sh, .sh, .sh]) sc_law_read.nd (DE.sh (de_op od_cat (de_op od_cat (de_var (i := 4) (m := .bo)) (de_lc (own := [("_law_kind", 9)]) rfl sc_law_read.nd (blkOk_by (N := ["_law_lines_here", "_law_wide", "_law_high", "_law_holes", "_law_kinds_here", "_law_row_here", "_law_one", "_law_pieces", "_law_square", "_law_kind"]) (sc := defScope s_law_read) (by decide +kernel)) (dic_anyK K (de_var (i := 4) (m := .bo))) (fun _ _ _ _ _ => (dg_name (i := 9) (M1 := [.bo, .bo, .bo, .bo, .bo, .sh, .sh, .sh, .sh, .sh]) sc_law_read.nd)) (fun _ _ _ _ _ => dts_nil) (fun _ _ _ _ _ => (de_bm0 K PySem.F.slot_str_upper PySem.F.type_str_upper md_upper (de_var (i := 9) (m := .sh)))))) (de_lst (da_cons (m' := .sh) de_str da_nil))))) (dss_wipe [4] (dss_cons (ds_for PassesOwn.never rfl (di_rng1 T.z_range (da_cons (m' := .sh) (de_op od_mulI (de_var (i := 1) (m := .bo)) (de_var (i := 2) (m := .bo))) da_nil)) (dg_name (i := 8) (M1 := [.bo, .bo, .bo, .bo, .bo, .sh, .sh, .sh, .sh, .sh]) sc_law_read.nd) (dss_cons (ds_if (M1 := [.bo, .bo, .bo, .bo, .bo, .sh, .sh, .sh, .sh, .sh]) (DW.dt (dw_or (DW.dt (dw_and (dt_cmp (od_inK K (by exact hr.units)) (de_var (i := 8) (m := .sh)) (de_var (i := 3) (m := .bo))) (dw_and1 (dt_cmp (od_neK K (by exact hr.units)) (de_ixK K (by exact hr.units) (de_var (i := 5) (m := .sh)) (de_var (i := 8) (m := .sh))) de_str)))) (dw_or1 (DW.dt (dw_and (dt_cmp (od_ninK K (by exact hr.units)) (de_var (i := 8) (m := .sh)) (de_var (i := 3) (m := .bo))) (dw_and1 (dt_cmp (od_ninK K (by exact hr.units)) (de_ixK K (by exact hr.units) (de_var (i := 5) (m := .sh)) (de_var (i := 8) (m := .sh))) (de_var (i := 7) (m := .sh))))))))) (dss_one (ds_ret de_non)) dss_nil) (dss_wipe [8] dss_nil))) (dss_one (ds_ret (de_tup (da_cons (m' := .sh) (de_var (i := 5) (m := .sh)) (da_cons (m' := .sh) (de_callTy cd_int rfl T.z_int (by decide +kernel) (da_cons (m' := .sh) (de_cmp (od_eqK K (by exact hr.units)) (de_ixK K (by exact hr.units) (de_var (i := 0) (m := .bo)) (de_neg de_int)) de_str) da_nil)) da_nil)))))))))))⟩
theorem ok_law_alone (T : Prg K mg) {pin C : Addr} {exc_c : Str} (hC : gam T exc_c = some C) (hcs : exc_c ∈ excs) : FnE P w K mg base pin C 1 T.d_law_alone.f T.d_law_alone.fd ["_law_e"] (spD K (gam T) [.bo] .sh (den_law_alone pin exc_c)) := by
  refine fn_okE (N := ["_law_e", "_law_told_here"]) (s := sv_law_alone pin exc_c) (M0 := [.bo, .sh]) (M' := [.bo, .sh]) T.d_law_alone.fn sc_law_alone rfl rfl rfl rfl rfl (fun cdv A outer s0 H E oe hz hf hr => ?_)
  exact ⟨_, _, (dss_cons (ds_set (i := 1) (M1 := [.bo, .sh]) sc_law_alone.nd (DE.sh (de_lst (da_cons (m' := .sh) (de_callB (cd_isE K (exI T hC hcs) hz hf) rfl T.z_isinstance (by decide +kernel) (da_cons (m' := .bo) (de_var (i := 0) (m := .bo)) (da_cons (m' := .sh) (de_cls T.gx_BadBoard (gam_BadBoard T)) da_nil))) (da_cons (m' := .sh) (de_callB (cd_isE K (exI T hC hcs) hz hf) rfl T.z_isinstance (by decide +kernel) (da_cons (m' := .bo) (de_var (i := 0) (m := .bo)) (da_cons (m' := .sh) (de_cls T.gx_BadGame (gam_BadGame T)) da_nil))) (da_cons (m' := .sh) (de_callB (cd_isE K (exI T hC hcs) hz hf) rfl T.z_isinstance (by decide +kernel) (da_cons (m' := .bo) (de_var (i := 0) (m := .bo)) (da_cons (m' := .sh) (de_cls T.gx_BadLine (gam_BadLine T)) da_nil))) (da_cons (m' := .sh) (de_callB (cd_isE K (exI T hC hcs) hz hf) rfl T.z_isinstance (by decide +kernel) (da_cons (m' := .bo) (de_var (i := 0) (m := .bo)) (da_cons (m' := .sh) (de_cls T.gx_BadPlace (gam_BadPlace T)) da_nil))) da_nil))))))) (dss_cons (ds_set (i := 1) (M1 := [.bo, .sh]) sc_law_alone.nd (DE.sh (de_op od_cat (de_var (i := 1) (m := .sh)) (de_lst (da_cons (m' := .sh) (de_callB (cd_isE K (exI T hC hcs) hz hf) rfl T.z_isinstance (by decide +kernel) (da_cons (m' := .bo) (de_var (i := 0) (m := .bo)) (da_cons (m' := .sh) (de_cls T.gx_NoMove (gam_NoMove T)) da_nil))) (da_cons (m' := .sh) (de_callB (cd_isE K (exI T hC hcs) hz hf) rfl T.z_isinstance (by decide +kernel) (da_cons (m' := .bo) (de_var (i := 0) (m := .bo)) (da_cons (m' := .sh) (de_cls T.gx_TooWide (gam_TooWide T)) da_nil))) (da_cons (m' := .sh) (de_callB (cd_isE K (exI T hC hcs) hz hf) rfl T.z_isinstance (by decide +kernel) (da_cons (m' := .bo) (de_var (i := 0) (m := .bo)) (da_cons (m' := .sh) (de_cls T.gx_NoWord (gam_NoWord T)) da_nil))) (da_cons (m' := .sh) (de_callB (cd_isE K (exI T hC hcs) hz hf) rfl T.z_isinstance (by decide +kernel) (da_cons (m' := .bo) (de_var (i := 0) (m := .bo)) (da_cons (m' := .sh) (de_cls T.gx_Over (gam_Over T)) da_nil))) da_nil)))))))) (dss_cons (ds_set (i := 1) (M1 := [.bo, .sh]) sc_law_alone.nd (DE.sh (de_op od_cat (de_var (i := 1) (m := .sh)) (de_lst (da_cons (m' := .sh) (de_callB (cd_isE K (exI T hC hcs) hz hf) rfl T.z_isinstance (by decide +kernel) (da_cons (m' := .bo) (de_var (i := 0) (m := .bo)) (da_cons (m' := .sh) (de_cls T.gx_NothingBack (gam_NothingBack T)) da_nil))) da_nil))))) (dss_one (ds_ret (de_and (de_cmp (od_eqK K (RoomE.units hr)) (de_count K (RoomE.units hr) (de_var (i := 1) (m := .sh)) de_bl) de_int) (de_one (de_callB (cd_isE K (exI T hC hcs) hz hf) rfl T.z_isinstance (by decide +kernel) (da_cons (m' := .bo) (de_var (i := 0) (m := .bo)) (da_cons (m' := .sh) (de_ty (n := "ValueError") T.z_ValueError) da_nil))))))))))⟩
theorem ok_law_told (T : Prg K mg) : FnOk P w K mg base CX0 7 T.d_law_told.f T.d_law_told.fd ["_law_game", "_law_lines_here"] (spD K (gam T) [.bo, .bo] .sh den_law_told) := by
  refine fn_ok (N := ["_law_game", "_law_lines_here", "_law_e"]) (s := sv_law_told) (M0 := [.bo, .bo, .sh]) (M' := [.bo, .bo, .sh]) T.d_law_told.fn sc_law_told rfl rfl rfl rfl rfl (fun cdv A outer s0 H E hr => ?_)
  exact ⟨_, _, (dss_cons (ds_tryAs (i := 2) (M1 := [.bo, .bo, .sh]) (ws := []) (wr := [2]) sc_law_told.nd ⟨rfl, by decide, .inl T.gx_PlayError⟩ takes0 (ct_PlayError T) (fun W pn xe tk hp => (dss_one (ds_retX (dx_callDK K T.d_place_of (ok_place_of T) (hr.mono (by decide)) tk (da_cons (m' := .bo) (de_var (i := 0) (m := .bo)) (da_cons (m' := .bo) (de_var (i := 1) (m := .bo)) da_nil)))))) (fun pin oe exc_c C pn hC hct hz hf => ⟨_, (dss_one (ds_ret (de_ifExp (DW.dt (dw_and (dt_val (de_callB (cd_isE K (exI T hC (ctOf_mem hct)) hz hf) rfl T.z_isinstance (by decide +kernel) (da_cons (m' := .bo) (de_var (i := 2) (m := .sh)) (da_cons (m' := .sh) (de_cls T.gx_BadPlace (gam_BadPlace T)) da_nil)))) (dw_and1 (dt_val (de_callE K hz hf T.d_law_alone (ok_law_alone T hC (ctOf_mem hct)) (roomE ((L2H.roomH_of hr).mono (by decide))) (da_cons (m' := .bo) (de_var (i := 2) (m := .sh)) da_nil)))))) de_non de_str)))⟩) (by decide) (own_of (by decide)) (by decide) (slots_of (by decide)) (by decide)) dss_nil)⟩
theorem ok_law (T : Prg K mg) : FnOk P w K mg base CX0 8 T.d_law.f T.d_law.fd ["_law_script"] (spD K (gam T) [.bo] .sh den_law) := by
  refine fn_ok (N := ["_law_script", "_law_wide", "_law_high", "_law_holes", "_law_kinds_here", "_law_word", "_law_is_word", "_law_game", "_law_place", "_law_due", "_law_found", "_law_cells", "_law_cell", "_law_lines_here", "_law_handed", "_law_told_here", "_law_one"]) (s := sv_law) (M0 := [.bo, .sh, .sh, .sh, .sh, .sh, .sh, .sh, .sh, .sh, .sh, .sh, .sh, .sh, .sh, .sh, .sh]) (M' := [.bo, .sh, .sh, .sh, .sh, .sh, .sh, .sh, .sh, .sh, .sh, .sh, .sh, .sh, .sh, .sh, .sh]) T.d_law.fn sc_law rfl rfl rfl rfl rfl (fun cdv A outer s0 H E hr => ?_)
  exact ⟨_, _, (dss_cons (ds_asg (de_callDK K T.d_law_board (ok_law_board T) (hr.mono (by decide)) (da_cons (m' := .bo) (de_var (i := 0) (m := .bo)) da_nil)) (dg_tupK K rfl (dgs_cons (dg_name (i := 1) (M1 := [.bo, .sh, .sh, .sh, .sh, .sh, .sh, .sh, .sh, .sh, .sh, .sh, .sh, .sh, .sh, .sh, .sh]) sc_law.nd) (dgs_cons (dg_name (i := 2) (M1 := [.bo, .sh, .sh, .sh, .sh, .sh, .sh, .sh, .sh, .sh, .sh, .sh, .sh, .sh, .sh, .sh, .sh]) sc_law.nd) (dgs_cons (dg_name (i := 3) (M1 := [.bo, .sh, .sh, .sh, .sh, .sh, .sh, .sh, .sh, .sh, .sh, .sh, .sh, .sh, .sh, .sh, .sh]) sc_law.nd) dgs_nil))))) (dss_cons (ds_set (i := 4) (M1 := [.bo, .sh, .sh, .sh, .sh, .sh, .sh, .sh, .sh, .sh, .sh, .sh, .sh, .sh, .sh, .sh, .sh]) sc_law.nd (DE.sh (de_callDK K T.d_law_kinds (ok_law_kinds T) (hr.mono (by decide)) (da_cons (m' := .bo) (de_callDK K T.d_law_cell_at (ok_law_cell_at T) (hr.mono (by decide)) (da_cons (m' := .bo) (de_var (i := 0) (m := .bo)) (da_cons (m' := .bo) de_int da_nil))) da_nil)))) (dss_cons (ds_set (i := 5) (M1 := [.bo, .sh, .sh, .sh, .sh, .sh, .sh, .sh, .sh, .sh, .sh, .sh, .sh, .sh, .sh, .sh, .sh]) sc_law.nd (de_ixK K (by exact hr.units) (de_lst (da_cons (m' := .sh) de_str (da_cons (m' := .sh) de_str da_nil))) (de_op od_mod (de_op od_div (de_callDK K T.d_law_cell_at (ok_law_cell_at T) (hr.mono (by decide)) (da_cons (m' := .bo) (de_var (i := 0) (m := .bo)) (da_cons (m' := .bo) de_int da_nil))) de_int) de_int))) (dss_cons (ds_set (i := 6) (M1 := [.bo, .sh, .sh, .sh, .sh, .sh, .sh, .sh, .sh, .sh, .sh, .sh, .sh, .sh, .sh, .sh, .sh]) sc_law.nd (de_cmp (od_eqK K (by exact hr.units)) (de_op od_mod (de_op od_div (de_callDK K T.d_law_cell_at (ok_law_cell_at T) (hr.mono (by decide)) (da_cons (m' := .bo) (de_var (i := 0) (m := .bo)) (da_cons (m' := .bo) de_int da_nil))) de_int) de_int) de_int)) (dss_cons (ds_if (M1 := [.bo, .sh, .sh, .sh, .sh, .sh, .sh, .sh, .sh, .sh, .sh, .sh, .sh, .sh, .sh, .sh, .sh]) (dt_val (de_var (i := 6) (m := .sh))) (dss_cons (ds_par3 (i := 1) (j := 3) (k := 4) (M1 := [.bo, .sh, .sh, .sh, .sh, .sh, .sh, .sh, .sh, .sh, .sh, .sh, .sh, .sh, .sh, .sh, .sh]) rfl sc_law.nd (da_cons (m' := .sh) (de_callB (cd_lenK K) rfl T.z_len (by decide +kernel) (da_cons (m' := .bo) (de_var (i := 5) (m := .sh)) da_nil)) (da_cons (m' := .sh) (de_lst da_nil) (da_cons (m' := .sh) (de_callTy (cd_listE (K := K) (m := .ow) rfl rfl) rfl T.z_list (by decide +kernel) (da_cons (m' := .bo) (de_var (i := 5) (m := .sh)) da_nil)) da_nil)))) dss_nil) dss_nil) (dss_cons (ds_set (i := 7) (M1 := [.bo, .sh, .sh, .sh, .sh, .sh, .sh, .sh, .sh, .sh, .sh, .sh, .sh, .sh, .sh, .sh, .sh]) sc_law.nd (de_make K T.mk_Game (gam_Game T) (ok_Game__init_ T) (hr.mono (by decide)) T.g_Game T.d_Game__init_.bd (fun _ _ _ h => denI_ins h) (da_cons (m' := .sh) (de_make K T.mk_Board (gam_Board T) (ok_Board__init_ T) (hr.mono (by decide)) T.g_Board T.d_Board__init_.bd (fun _ _ _ h => denI_ins h) (da_cons (m' := .sh) (de_var (i := 1) (m := .sh)) (da_cons (m' := .sh) (de_var (i := 2) (m := .sh)) (da_cons (m' := .bo) (de_callTy (cd_listK K (m := .ow) rfl) rfl T.z_list (by decide +kernel) (da_cons (m' := .bo) (de_var (i := 3) (m := .sh)) da_nil)) da_nil)))) (da_cons (m' := .bo) (de_callTy (cd_listK K (m := .ow) rfl) rfl T.z_list (by decide +kernel) (da_cons (m' := .bo) (de_var (i := 4) (m := .sh)) da_nil)) (da_cons (m' := .bo) (de_lst da_nil) (da_cons (m' := .bo) (de_lst da_nil) (da_cons (m' := .bo) (de_lst da_nil) (da_cons (m' := .sh) de_str da_nil)))))))) (dss_cons (ds_set (i := 8) (M1 := [.bo, .sh, .sh, .sh, .sh, .sh, .sh, .sh, .sh, .sh, .sh, .sh, .sh, .sh, .sh, .sh, .sh]) sc_law.nd (de_tup (da_cons (m' := .sh) (de_callDK K T.d_law_row (ok_law_row T) (hr.mono (by decide)) (da_cons (m' := .bo) (de_var (i := 0) (m := .bo)) (da_cons (m' := .bo) (de_var (i := 7) (m := .sh)) (da_cons (m' := .bo) de_int da_nil)))) (da_cons (m' := .sh) (de_op od_mod (de_callDK K T.d_law_cell_at (ok_law_cell_at T) (hr.mono (by decide)) (da_cons (m' := .bo) (de_var (i := 0) (m := .bo)) (da_cons (m' := .bo) de_int da_nil))) de_int) da_nil)))) (dss_cons (ds_if (M1 := [.bo, .sh, .sh, .sh, .sh, .sh, .sh, .sh, .sh, .sh, .sh, .sh, .sh, .sh, .sh, .sh, .sh]) (dt_val (de_var (i := 6) (m := .sh))) (dss_cons (ds_set (i := 8) (M1 := [.bo, .sh, .sh, .sh, .sh, .sh, .sh, .sh, .sh, .sh, .sh, .sh, .sh, .sh, .sh, .sh, .sh]) sc_law.nd (de_tup (da_cons (m' := .sh) (de_op (od_addK K) (de_var (i := 5) (m := .sh)) (de_slK K (de_ixK K (by exact hr.units) (de_var (i := 8) (m := .sh)) de_int) (do_some (de_var (i := 1) (m := .sh))) do_none)) (da_cons (m' := .sh) (de_ixK K (by exact hr.units) (de_var (i := 8) (m := .sh)) de_int) da_nil)))) (dss_wipe [5, 6] dss_nil)) (dss_wipe [5, 6] dss_nil)) (dss_cons (ds_set (i := 9) (M1 := [.bo, .sh, .sh, .sh, .sh, .sh, .sh, .sh, .sh, .sh, .sh, .sh, .sh, .sh, .sh, .sh, .sh]) sc_law.nd (DE.sh (de_callDK K T.d_law_lines (ok_law_lines T) (hr.mono (by decide)) (da_cons (m' := .bo) (de_var (i := 8) (m := .sh)) (da_cons (m' := .bo) (de_var (i := 1) (m := .sh)) (da_cons (m' := .sh) (de_var (i := 2) (m := .sh)) da_nil)))))) (dss_cons (ds_set (i := 10) (M1 := [.bo, .sh, .sh, .sh, .sh, .sh, .sh, .sh, .sh, .sh, .ow, .sh, .sh, .sh, .sh, .sh, .sh]) sc_law.nd (de_callDK K T.d_shown (ok_shown T) (hr.mono (by decide)) (da_cons (m' := .bo) (de_var (i := 7) (m := .sh)) (da_cons (m' := .sh) (de_var (i := 8) (m := .sh)) da_nil)))) (dss_cons (ds_if (M1 := [.bo, .sh, .sh, .sh, .sh, .sh, .sh, .sh, .sh, .sh, .ow, .sh, .sh, .sh, .sh, .sh, .sh]) (DW.dt (dw_or (dt_not (dt_val (de_callB (cd_isiK K) rfl T.z_isinstance (by decide +kernel) (da_cons (m' := .bo) (de_var (i := 10) (m := .ow)) (da_cons (m' := .sh) (de_ty (n := "list") T.z_list) da_nil))))) (dw_or (dt_cmp (od_neK K (by exact hr.units)) (de_var (i := 10) (m := .ow)) (de_var (i := 9) (m := .sh))) (dw_or1 (dt_cmp (od_neK K (by exact hr.units)) (de_lc (own := [("_law_one", 16)]) rfl sc_law.nd (blkOk_by (N := ["_law_script", "_law_wide", "_law_high", "_law_holes", "_law_kinds_here", "_law_word", "_law_is_word", "_law_game", "_law_place", "_law_due", "_law_found", "_law_cells", "_law_cell", "_law_lines_here", "_law_handed", "_law_told_here", "_law_one"]) (sc := defScope s_law) (by decide +kernel)) (dic_anyK K (de_var (i := 10) (m := .ow))) (fun _ _ _ _ _ => (dg_name (i := 16) (M1 := [.bo, .sh, .sh, .sh, .sh, .sh, .sh, .sh, .sh, .sh, .ow, .sh, .sh, .sh, .sh, .sh, .sh]) sc_law.nd)) (fun _ _ _ _ _ => (dts_one (dt_not (dt_val (de_callB (cd_isiK K) rfl T.z_isinstance (by decide +kernel) (da_cons (m' := .bo) (de_var (i := 16) (m := .sh)) (da_cons (m' := .sh) (de_ty (n := "str") T.z_str) da_nil))))))) (fun _ _ _ _ _ => (de_var (i := 16) (m := .sh)))) (de_lst da_nil)))))) (dss_one (ds_ret de_bl)) dss_nil) (dss_cons (ds_append (i := 10) rfl de_str) (dss_cons (ds_if (M1 := [.bo, .sh, .sh, .sh, .sh, .sh, .sh, .sh, .sh, .sh, .ow, .sh, .sh, .sh, .sh, .sh, .sh]) (DW.dt (dw_or (dt_cmp (od_neK K (by exact hr.units)) (de_callDK K T.d_shown (ok_shown T) (hr.mono (by decide)) (da_cons (m' := .bo) (de_var (i := 7) (m := .sh)) (da_cons (m' := .sh) (de_var (i := 8) (m := .sh)) da_nil))) (de_var (i := 9) (m := .sh))) (dw_or1 (dt_cmp (od_neK K (by exact hr.units)) (de_var (i := 10) (m := .ow)) (de_op od_cat (de_var (i := 9) (m := .sh)) (de_lst (da_cons (m' := .sh) de_str da_nil))))))) (dss_one (ds_ret de_bl)) dss_nil) (dss_cons (ds_set (i := 11) (M1 := [.bo, .sh, .sh, .sh, .sh, .sh, .sh, .sh, .sh, .sh, .ow, .sh, .sh, .sh, .sh, .sh, .sh]) sc_law.nd (DE.sh (de_op od_cat (de_op od_cat (de_lst (da_cons (m' := .sh) de_int (da_cons (m' := .sh) (de_callDK K T.d_law_mixed (ok_law_mixed T) (hr.mono (by decide)) (da_cons (m' := .bo) (de_callDK K T.d_law_cell_at (ok_law_cell_at T) (hr.mono (by decide)) (da_cons (m' := .bo) (de_var (i := 0) (m := .bo)) (da_cons (m' := .bo) de_int da_nil))) (da_cons (m' := .bo) de_int da_nil))) da_nil))) (de_lc (own := [("_law_cell", 12)]) rfl sc_law.nd (blkOk_by (N := ["_law_script", "_law_wide", "_law_high", "_law_holes", "_law_kinds_here", "_law_word", "_law_is_word", "_law_game", "_law_place", "_law_due", "_law_found", "_law_cells", "_law_cell", "_law_lines_here", "_law_handed", "_law_told_here", "_law_one"]) (sc := defScope s_law) (by decide +kernel)) (dic_anyK K (de_slK K (de_var (i := 0) (m := .bo)) (do_some de_int) (do_some de_int))) (fun _ _ _ _ _ => (dg_name (i := 12) (M1 := [.bo, .sh, .sh, .sh, .sh, .sh, .sh, .sh, .sh, .sh, .ow, .sh, .sh, .sh, .sh, .sh, .sh]) sc_law.nd)) (fun _ _ _ _ _ => dts_nil) (fun _ _ _ _ _ => (de_callDK K T.d_law_mixed (ok_law_mixed T) (hr.mono (by decide)) (da_cons (m' := .bo) (de_var (i := 12) (m := .sh)) (da_cons (m' := .bo) de_int da_nil)))))) (de_lst (da_cons (m' := .sh) de_int da_nil))))) (dss_wipe [0, 8, 10] (dss_cons (ds_for PassesOwn.never rfl (di_anyK K (de_var (i := 11) (m := .sh))) (dg_name (i := 12) (M1 := [.bo, .sh, .sh, .sh, .sh, .sh, .sh, .sh, .sh, .sh, .ow, .sh, .sh, .sh, .sh, .sh, .sh]) sc_law.nd) (DSs.frozen (M1 := [.bo, .sh, .sh, .sh, .sh, .sh, .sh, .sh, .sh, .sh, .ow, .sh, .sh, .sh, .sh, .sh, .sh]) 14 (dss_cons (ds_set (i := 13) (M1 := [.bo, .sh, .sh, .sh, .sh, .sh, .sh, .sh, .sh, .sh, .ow, .sh, .sh, .sh, .sh, .sh, .sh]) sc_law.nd (de_callDK K T.d_law_changed (ok_law_changed T) (hr.mono (by decide)) (da_cons (m' := .sh) (de_var (i := 9) (m := .sh)) (da_cons (m' := .bo) (de_var (i := 12) (m := .sh)) (da_cons (m' := .bo) (de_var (i := 4) (m := .sh)) da_nil))))) (dss_cons (ds_set (i := 14) (M1 := [.bo, .sh, .sh, .sh, .sh, .sh, .sh, .sh, .sh, .sh, .ow, .sh, .sh, .sh, .ow, .sh, .sh]) sc_law.nd (de_callTy (cd_listK K (m := .ow) rfl) rfl T.z_list (by decide +kernel) (da_cons (m' := .bo) (de_var (i := 13) (m := .sh)) da_nil))) (dss_cons (ds_set (i := 15) (M1 := [.bo, .sh, .sh, .sh, .sh, .sh, .sh, .sh, .sh, .sh, .ow, .sh, .sh, .sh, .ow, .sh, .sh]) sc_law.nd (de_callDK K T.d_law_told (ok_law_told T) (hr.mono (by decide)) (da_cons (m' := .bo) (de_var (i := 7) (m := .sh)) (da_cons (m' := .bo) (de_var (i := 14) (m := .ow)) da_nil)))) (dss_cons (ds_if (M1 := [.bo, .sh, .sh, .sh, .sh, .sh, .sh, .sh, .sh, .sh, .ow, .sh, .sh, .sh, .ow, .sh, .sh]) (DW.dt (dw_or (dt_cmp (od_neK K (by exact hr.units)) (de_var (i := 15) (m := .sh)) (de_callDK K T.d_law_read (ok_law_read T) (hr.mono (by decide)) (da_cons (m' := .bo) (de_var (i := 13) (m := .sh)) (da_cons (m' := .bo) (de_var (i := 1) (m := .sh)) (da_cons (m' := .bo) (de_var (i := 2) (m := .sh)) (da_cons (m' := .bo) (de_var (i := 3) (m := .sh)) (da_cons (m' := .bo) (de_var (i := 4) (m := .sh)) da_nil))))))) (dw_or1 (dt_cmp (od_neK K (by exact hr.units)) (de_var (i := 14) (m := .ow)) (de_var (i := 13) (m := .sh)))))) (dss_one (ds_ret de_bl)) dss_nil) (dss_cons (ds_clear (i := 14) rfl) (dss_cons (ds_if (M1 := [.bo, .sh, .sh, .sh, .sh, .sh, .sh, .sh, .sh, .sh, .ow, .sh, .sh, .sh, .ow, .sh, .sh]) (DW.dt (dw_and (dt_cmp od_isnot (de_var (i := 15) (m := .sh)) de_non) (dw_and1 (DW.dt (dw_or (dt_not (dt_val (de_callB (cd_isiK K) rfl T.z_isinstance (by decide +kernel) (da_cons (m' := .bo) (de_var (i := 15) (m := .sh)) (da_cons (m' := .sh) (de_ty (n := "tuple") T.z_tuple) da_nil))))) (dw_or1 (dt_not (dt_val (de_callDK K T.d_law_whole (ok_law_whole T) (hr.mono (by decide)) (da_cons (m' := .bo) (de_ixK K (by exact hr.units) (de_var (i := 15) (m := .sh)) de_int) da_nil)))))))))) (dss_one (ds_ret de_bl)) dss_nil) (dss_wipe [12, 13, 14, 15] dss_nil))))))))) (dss_one (ds_ret de_bl))))))))))))))))))⟩
end
end Pr
set_option maxHeartbeats 4000000
namespace Pr
open PySem L2 Dl
theorem lf_is_whole (thing : D) : ∀ r, t_is_whole thing = some r → den_is_whole [eD thing] = some (D.bl r) := by
  have h : St sv_is_whole (([eD thing] : List D).map some ++ List.replicate (1 - 1) none) (fun r => .rt (D.bl r)) _ := (stRetM (vandM (callM (arMconsP (lv (e := eD) (x := thing) 0) (arMconsP (lc (e := eD) (x := .ty "int")) (arMnil (b_isiD _ _))))) (vnotM (callM (arMconsP (lv (e := eD) (x := thing) 0) (arMconsP (lc (e := eD) (x := .ty "bool")) (arMnil (b_isiD _ _))))))))
  exact def_of rfl h
theorem lf_is_letter (thing : D) : ∀ r, t_is_letter thing = some r → den_is_letter [eD thing] = some (D.bl r) := by
  have h : St sv_is_letter (([eD thing] : List D).map some ++ List.replicate (1 - 1) none) (fun r => .rt (D.bl r)) _ := (stRetM (vandM (callM (arMconsP (lv (e := eD) (x := thing) 0) (arMconsP (lc (e := eD) (x := .ty "str")) (arMnil (b_isiD _ _))))) (vandM (l2MP (t_eq enc_int) (callM (arMconsP (lv (e := eD) (x := thing) 0) (arMnil (b_lenD _)))) (lc (e := D.int) (x := (1 : Int)))) (k2PP d_in (lv (e := eD) (x := thing) 0) (EvP.dyn (e := D.str) (lc (e := D.str) (x := ("abcdefghijklmnopqrstuvwxyz" : Str))))))))
  exact def_of rfl h
theorem lf_is_among (thing : D) (least : Int) (most : Int) : ∀ r, t_is_among thing least most = some r → den_is_among [eD thing, D.int least, D.int most] = some (D.bl r) := by
  have h : St sv_is_among (([eD thing, D.int least, D.int most] : List D).map some ++ List.replicate (3 - 3) none) (fun r => .rt (D.bl r)) _ := (stRetM (vandM (callM (arMconsP (lv (e := eD) (x := thing) 0) (arMnil (lf_is_whole thing)))) (chM t_le t_le (EvP.m (lv (e := D.int) (x := least) 1)) (EvP.cast (lv (e := eD) (x := thing) 0) cI_ok) (EvP.m (lv (e := D.int) (x := most) 2)))))
  exact def_of rfl h
theorem lf_kind_of (sign : Str) : ∀ r, t_kind_of sign = some r → den_kind_of [D.str sign] = some ((eO D.str) r) := by
  have h : St sv_kind_of (([D.str sign] : List D).map some ++ List.replicate (1 - 1) none) (fun r => .rt ((eO D.str) r)) _ := (stIfT nnRet (orPP (tvP (l2PP (t_eq enc_str) (lv (e := D.str) (x := sign) 0) (lc (e := D.str) (x := ("." : Str))))) (tvP (l2PP (t_eq enc_str) (lv (e := D.str) (x := sign) 0) (lc (e := D.str) (x := ("#" : Str)))))) (stRet (lc (e := (eO D.str)) (x := none))) (stSkip (stRetM (EvM.some (sm0M (smMP (lv (e := D.str) (x := sign) 0) ( (arMnil (m_lower _)))))))))
  exact def_of rfl h
theorem lf_shown (game : TGame) (place : (Str × Int)) : ∀ r, t_shown game place = some r → den_shown [eGame game, (eT2 D.str D.int) place] = some ((eL D.str) r) := by
  have h : St sv_shown (([eGame game, (eT2 D.str D.int) place] : List D).map some ++ List.replicate (7 - 2) none) (fun r => .rt ((eL D.str) r)) _ := (stAsg (lv (e := (eT2 D.str D.int)) (x := place) 1) (by intro _; rfl) (fun pair => (stSetI (fldP (e2 := D.int) (y := game.board.wide) (fldP (e2 := eBoard) (y := game.board) (lv (e := eGame) (x := game) 0))) (stSetI (lstP (arPnil (e := (eL D.str)) (x := []) rfl)) (stWip (stSeq (stForM (E := (fun (v5 : (List Str)) => ([some (eGame game), none, some (D.str pair.1), some (D.int pair.2), some (D.int game.board.wide), some ((eL D.str) v5), none] : Dl.Env))) (E' := (fun (v5 : (List Str)) (at_ : Int) => ([some (eGame game), none, some (D.str pair.1), some (D.int pair.2), some (D.int game.board.wide), some ((eL D.str) v5), some (D.int at_)] : Dl.Env))) [] (itRevR (EvP.m (fldP (e2 := D.int) (y := game.board.high) (fldP (e2 := eBoard) (y := game.board) (lv (e := eGame) (x := game) 0))))) (by rfl) (by intro _ _; rfl) (fun v5 at_ => (stAppM (slM s_s (EvP.m (lv (e := D.str) (x := pair.1) 2)) (ptM (k2PP p_mul (lv (e := D.int) (x := at_) 6) (lv (e := D.int) (x := game.board.wide) 4))) (ptM (l2MP t_add (k2PP p_mul (lv (e := D.int) (x := at_) 6) (lv (e := D.int) (x := game.board.wide) 4)) (lv (e := D.int) (x := game.board.wide) 4)))) (fun lines => (stWip (stNext (E := (fun (v5 : (List Str)) => ([some (eGame game), none, some (D.str pair.1), some (D.int pair.2), some (D.int game.board.wide), some ((eL D.str) v5), none] : Dl.Env))) lines)))))) (fun v18 => (stRetM (k2PM p_catl (lv (e := (eL D.str)) (x := v18) 5) (lstM (arMconsM (k2PP p_ixk (lc (e := (eK D.str)) (x := [("first" : Str), ("second" : Str)])) (lv (e := D.int) (x := pair.2) 3)) (fun z21 => (arMtot (e := (eL D.str)) (x := [z21]) rfl)))))))))))))
  exact def_of rfl h
theorem lf_need (good : Bool) : ∀ r, t_need good = some r → den_need [D.bl good] = some (gR eU r) := by
  have h : St sv_need (([D.bl good] : List D).map some ++ List.replicate (1 - 1) none) (gXU (List.replicate 1 none)) _ := (stIfT nnRaise (notP (tvP (lv (e := D.bl) (x := good) 0))) stRaiseXU (stSkip (stWip stOffX)))
  exact defXU_of rfl h
theorem lf_are_holes (things : (List D)) (many : Int) : ∀ r, t_are_holes things many = some r → den_are_holes [(eL eD) things, D.int many] = some (D.bl r) := by
  have h : St sv_are_holes (([(eL eD) things, D.int many] : List D).map some ++ List.replicate (3 - 2) none) (fun r => .rt (D.bl r)) _ := (stSeqC (Rr := (fun r => r)) (stForC (E := (fun (v1 : Unit) => ([some ((eL eD) things), some (D.int many), none] : Dl.Env))) (E' := (fun (v1 : Unit) (thing : D) => ([some ((eL eD) things), some (D.int many), some (eD thing)] : Dl.Env))) (e2 := D.bl) () (itL (lv (e := (eL eD)) (x := things) 0)) (by rfl) (by intro _ _; rfl) (fun v1 thing => (stIfTM nnRet (notM (tvM (callM (arMconsP (lv (e := eD) (x := thing) 2) (arMconsP (lc (e := D.int) (x := (0 : Int))) (arMconsP (l2PP t_sub (lv (e := D.int) (x := many) 1) (lc (e := D.int) (x := (1 : Int)))) (arMnil (lf_is_among thing (0 : Int) (many - (1 : Int)))))))))) (stRetC (E := (fun (v1 : Unit) => ([some ((eL eD) things), some (D.int many), none] : Dl.Env))) (lc (e := D.bl) (x := false))) (stSkip (stWip (stNextC (E := (fun (v1 : Unit) => ([some ((eL eD) things), some (D.int many), none] : Dl.Env))) (e := D.bl) ())))))) (fun v4 => (stRetM (vandM (l2MP (t_eq enc_int) (lenSetDP (EvP.dyn (e := (eL eD)) (lv (e := (eL eD)) (x := things) 0))) (callP (arPcons (lv (e := (eL eD)) (x := things) 0) (arPnil (e := D.int) (x := (things.length : Int)) (b_lenL _))))) (EvP.m (l2PP t_lt (callP (arPcons (lv (e := (eL eD)) (x := things) 0) (arPnil (e := D.int) (x := (things.length : Int)) (b_lenL _)))) (lv (e := D.int) (x := many) 1)))))))
  exact def_of rfl h
theorem lf_Board__init_ (wide : D) (high : D) (holes : D) : ∀ r, t_Board__init_ wide high holes = some r → denM den_Board__init_ [eD wide, eD high, eD holes] = some (eBoard r) := fun r q => by
  unfold t_Board__init_ at q
  split at q
  · rename_i hs
    have h : ∀ self_a : Addr, St sv_Board__init_ (some (.slf self_a "Board" []) :: (([eD wide, eD high, eD holes] : List D).map some ++ List.replicate (4 - 4) none)) (fun v => .nx ((fun (v0 : TBoard) => ([some (.slf self_a "Board" [("wide", D.int v0.wide), ("high", D.int v0.high), ("holes", (eL D.int) v0.holes)]), none, none, none] : Dl.Env)) v)) _ := fun self_a => (stIfTM nnNo (orM (notM (tvM (callM (arMconsP (lv (e := eD) (x := wide) 1) (arMconsP (lc (e := D.int) (x := (1 : Int))) (arMconsP (lc (e := D.int) (x := (8 : Int))) (arMnil (lf_is_among wide (1 : Int) (8 : Int))))))))) (notM (tvM (callM (arMconsP (lv (e := eD) (x := high) 2) (arMconsP (lc (e := D.int) (x := (1 : Int))) (arMconsP (lc (e := D.int) (x := (8 : Int))) (arMnil (lf_is_among high (1 : Int) (8 : Int)))))))))) stNo (stSkip (stIfTM nnNo (orM (notM (tvM (callM (arMconsP (lv (e := eD) (x := holes) 3) (arMconsP (lc (e := eD) (x := .ty "list")) (arMnil (b_isiD _ _))))))) (notM (tvM (callM (arMconsM (EvP.cast (lv (e := eD) (x := holes) 3) (cL_ok cD_ok)) (fun z6 => (arMconsM (k2MM p_mul (EvP.cast (lv (e := eD) (x := wide) 1) cI_ok) (EvP.cast (lv (e := eD) (x := high) 2) cI_ok)) (fun z7 => (arMnil (lf_are_holes z6 z7)))))))))) stNo (stSkip (stFldM (a := self_a) (c := "Board") (fs := []) (EvP.cast (lv (e := eD) (x := wide) 1) cI_ok) (fun wide1 => (stFldM (a := self_a) (c := "Board") (fs := [("wide", D.int wide1)]) (EvP.cast (lv (e := eD) (x := high) 2) cI_ok) (fun high1 => (stFldM (a := self_a) (c := "Board") (fs := [("wide", D.int wide1), ("high", D.int high1)]) (callM (arMconsP (lv (e := eD) (x := holes) 3) (arMnil (b_sortD _)))) (fun holes1 => (stWip (stNext (E := (fun (v0 : TBoard) => ([some (.slf self_a "Board" [("wide", D.int v0.wide), ("high", D.int v0.high), ("holes", (eL D.int) v0.holes)]), none, none, none] : Dl.Env))) ({ wide := wide1, high := high1, holes := holes1 } : TBoard)))))))))))))
    unfold den_Board__init_
    exact init_of (G := (fun (v0 : TBoard) => [("wide", D.int v0.wide), ("high", D.int v0.high), ("holes", (eL D.int) v0.holes)])) (E := fun self_a => (fun (v0 : TBoard) => ([some (.slf self_a "Board" [("wide", D.int v0.wide), ("high", D.int v0.high), ("holes", (eL D.int) v0.holes)]), none, none, none] : Dl.Env))) rfl hs h (fun _ _ => rfl) r q
  · cases q
theorem lf_Board_has (self : TBoard) (square : D) : ∀ r, t_Board_has self square = some r → den_Board_has [eBoard self, eD square] = some (D.bl r) := by
  have h : St sv_Board_has (([eBoard self, eD square] : List D).map some ++ List.replicate (2 - 2) none) (fun r => .rt (D.bl r)) _ := (stRetM (vandM (callM (arMconsP (lv (e := eD) (x := square) 1) (arMconsP (lc (e := D.int) (x := (0 : Int))) (arMconsM (l2MP t_sub (k2PP p_mul (fldP (e2 := D.int) (y := self.wide) (lv (e := eBoard) (x := self) 0)) (fldP (e2 := D.int) (y := self.high) (lv (e := eBoard) (x := self) 0))) (lc (e := D.int) (x := (1 : Int)))) (fun z10 => (arMnil (lf_is_among square (0 : Int) z10))))))) (k2PP d_nin (lv (e := eD) (x := square) 1) (EvP.dyn (e := (eL D.int)) (fldP (e2 := (eL D.int)) (y := self.holes) (lv (e := eBoard) (x := self) 0))))))
  exact def_of rfl h
theorem lf_is_sign (game : TGame) (square : Int) (sign : Str) : ∀ r, t_is_sign game square sign = some r → den_is_sign [eGame game, D.int square, D.str sign] = some (D.bl r) := by
  have h : St sv_is_sign (([eGame game, D.int square, D.str sign] : List D).map some ++ List.replicate (3 - 3) none) (fun r => .rt (D.bl r)) _ := (stIfTM nnRet (notM (tvM (meP (fldP (e2 := eBoard) (y := game.board) (lv (e := eGame) (x := game) 0)) ( (arMconsP (EvP.dyn (e := D.int) (lv (e := D.int) (x := square) 1)) (arMnil (lf_Board_has game.board (D.int square)))))))) (stRet (l2PP (t_eq enc_str) (lv (e := D.str) (x := sign) 2) (lc (e := D.str) (x := ("#" : Str))))) (stSkip (stRetM (vorPM (l2PP (t_eq enc_str) (lv (e := D.str) (x := sign) 2) (lc (e := D.str) (x := ("." : Str)))) (l2MP (t_in (enc_o enc_str nn_str)) (callM (arMconsP (lv (e := D.str) (x := sign) 2) (arMnil (lf_kind_of sign)))) (EvP.map (e' := (eL (eO D.str))) (List.map (fun x => some ((fun x => x) x))) (fldP (e2 := (eL D.str)) (y := game.kinds) (lv (e := eGame) (x := game) 0)) (eL_conv (fun x => some ((fun x => x) x)) (fun _ => rfl))))))))
  exact def_of rfl h
theorem lf_is_place (game : TGame) (thing : D) : ∀ r, t_is_place game thing = some r → den_is_place [eGame game, eD thing] = some (D.bl r) := by
  have h : St sv_is_place (([eGame game, eD thing] : List D).map some ++ List.replicate (6 - 2) none) (fun r => .rt (D.bl r)) _ := (stIfTM nnRet (orM (notM (tvM (callM (arMconsP (lv (e := eD) (x := thing) 1) (arMconsP (lc (e := eD) (x := .ty "tuple")) (arMnil (b_isiD _ _))))))) (orM (tvM (l2MP (t_ne enc_int) (callM (arMconsP (lv (e := eD) (x := thing) 1) (arMnil (b_lenD _)))) (lc (e := D.int) (x := (2 : Int))))) (notM (tvM (callM (arMconsM (k2PP (d_op opIx) (lv (e := eD) (x := thing) 1) (EvP.dyn (e := D.int) (lc (e := D.int) (x := (0 : Int))))) (fun z3 => (arMconsP (lc (e := eD) (x := .ty "str")) (arMnil (b_isiD _ _)))))))))) (stRet (lc (e := D.bl) (x := false))) (stSkip (stAsgM (EvP.cast (lv (e := eD) (x := thing) 1) (cT2_ok cS_ok cD_ok)) (by intro _; rfl) (fun pair => (stIfTM nnRet (orM (tvM (l2PM (t_ne enc_int) (callP (arPcons (lv (e := D.str) (x := pair.1) 2) (arPnil (e := D.int) (x := (pair.1.length : Int)) (b_lenS _)))) (k2PP p_mul (fldP (e2 := D.int) (y := game.board.wide) (fldP (e2 := eBoard) (y := game.board) (lv (e := eGame) (x := game) 0))) (fldP (e2 := D.int) (y := game.board.high) (fldP (e2 := eBoard) (y := game.board) (lv (e := eGame) (x := game) 0)))))) (notM (tvM (callM (arMconsP (lv (e := eD) (x := pair.2) 3) (arMconsP (lc (e := D.int) (x := (0 : Int))) (arMconsP (lc (e := D.int) (x := (1 : Int))) (arMnil (lf_is_among pair.2 (0 : Int) (1 : Int)))))))))) (stRet (lc (e := D.bl) (x := false))) (stSkip (stWip (stSeqC (Rr := (fun r => r)) (stForC (E := (fun (v20 : Unit) => ([some (eGame game), none, some (D.str pair.1), none, none, none] : Dl.Env))) (E' := (fun (v20 : Unit) (item : (Int × Str)) => ([some (eGame game), none, some (D.str pair.1), none, some (D.int item.1), some (D.str item.2)] : Dl.Env))) (e2 := D.bl) () (itEnS (lv (e := D.str) (x := pair.1) 2)) (by rfl) (by intro _ _; rfl) (fun v20 item => (stIfTM nnRet (notM (tvM (callM (arMconsP (lv (e := eGame) (x := game) 0) (arMconsP (lv (e := D.int) (x := item.1) 4) (arMconsP (lv (e := D.str) (x := item.2) 5) (arMnil (lf_is_sign game item.1 item.2)))))))) (stRetC (E := (fun (v20 : Unit) => ([some (eGame game), none, some (D.str pair.1), none, none, none] : Dl.Env))) (lc (e := D.bl) (x := false))) (stSkip (stWip (stNextC (E := (fun (v20 : Unit) => ([some (eGame game), none, some (D.str pair.1), none, none, none] : Dl.Env))) (e := D.bl) ())))))) (fun v23 => (stRet (lc (e := D.bl) (x := true))))))))))))
  exact def_of rfl h
theorem lf_place_of (game : TGame) (lines : (List Str)) : ∀ r, t_place_of game lines = some r → den_place_of [eGame game, (eL D.str) lines] = some (gR (eT2 D.str D.int) r) := by
  have h : St sv_place_of (([eGame game, (eL D.str) lines] : List D).map some ++ List.replicate (4 - 2) none) (gX (eT2 D.str D.int)) _ := (stExprFX (R := (fun c => Rt.ex c)) (callX (arXconsM (vandPM (l2PP (t_eq enc_int) (callP (arPcons (lv (e := (eL D.str)) (x := lines) 1) (arPnil (e := D.int) (x := (lines.length : Int)) (b_lenL _)))) (l2PP t_add (fldP (e2 := D.int) (y := game.board.high) (fldP (e2 := eBoard) (y := game.board) (lv (e := eGame) (x := game) 0))) (lc (e := D.int) (x := (1 : Int))))) (l2MP (t_ink enc_str) (k2PP p_ixl (lv (e := (eL D.str)) (x := lines) 1) (negP (lc (e := D.int) (x := (1 : Int))))) (lc (e := (eK D.str)) (x := [("first" : Str), ("second" : Str)])))) (fun z8 => (arXnil (lf_need z8))))) (fun _ => (stSeqG (Rr := (fun r => r)) (gX_stops _) (stForG (gX_stops _) (E := (fun (v11 : Unit) => ([some (eGame game), some ((eL D.str) lines), none, none] : Dl.Env))) (E' := (fun (v11 : Unit) (line : Str) => ([some (eGame game), some ((eL D.str) lines), some (D.str line), none] : Dl.Env))) () (itL (slP s_l (lv (e := (eL D.str)) (x := lines) 1) ptN (ptP (negP (lc (e := D.int) (x := (1 : Int))))))) (by rfl) (by intro _ _; rfl) (fun v11 line => (stExprFX (R := (fun c => Ctl.rt (Rt.ex c))) (callX (arXconsP (l2PP (t_eq enc_int) (callP (arPcons (lv (e := D.str) (x := line) 2) (arPnil (e := D.int) (x := (line.length : Int)) (b_lenS _)))) (fldP (e2 := D.int) (y := game.board.wide) (fldP (e2 := eBoard) (y := game.board) (lv (e := eGame) (x := game) 0)))) (arXnil (lf_need (decide ((line.length : Int) = game.board.wide)))))) (fun _ => (stWip (stNextG (E := (fun (v11 : Unit) => ([some (eGame game), some ((eL D.str) lines), none, none] : Dl.Env))) ())))))) (fun v14 => (stSetM (tupM (arMconsM (joinRM (EvP.m (lc (e := D.str) (x := ("" : Str)))) (EvP.m (slP s_l (lv (e := (eL D.str)) (x := lines) 1) ptN (ptP (negP (lc (e := D.int) (x := (1 : Int)))))))) (fun z23 => (arMconsM (idxKM (ks := [("first" : Str), ("second" : Str)]) (k2PP p_ixl (lv (e := (eL D.str)) (x := lines) 1) (negP (lc (e := D.int) (x := (1 : Int)))))) (fun z24 => (arMtot (e := (eT2 D.str D.int)) (x := (z23, z24)) rfl)))))) (fun place => (stExprFX (R := (fun c => Rt.ex c)) (callX (arXconsM (callM (arMconsP (lv (e := eGame) (x := game) 0) (arMconsP (EvP.dyn (e := (eT2 D.str D.int)) (lv (e := (eT2 D.str D.int)) (x := place) 3)) (arMnil (lf_is_place game ((eT2 D.str D.int) place)))))) (fun z25 => (arXnil (lf_need z25))))) (fun _ => (stRetX (lv (e := (eT2 D.str D.int)) (x := place) 3))))))))))
  exact defX_of rfl h
theorem lf_far_of (sort : Str) : ∀ r, t_far_of sort = some r → den_far_of [D.str sort] = some (D.int r) := by
  have h : St sv_far_of (([D.str sort] : List D).map some ++ List.replicate (1 - 1) none) (fun r => .rt (D.int r)) _ := (stIfT nnRet (tvP (l2PP (t_eq enc_str) (lv (e := D.str) (x := sort) 0) (lc (e := D.str) (x := ("leap" : Str))))) (stRet (lc (e := D.int) (x := (3 : Int)))) (stSkip (stRet (lc (e := D.int) (x := (1 : Int))))))
  exact def_of rfl h
theorem lf_is_rule (thing : (Str × Str × Str × Int × Int)) (kinds : (List Str)) : ∀ r, t_is_rule thing kinds = some r → den_is_rule [(eT5 D.str D.str D.str D.int D.int) thing, (eL D.str) kinds] = some (D.bl r) := by
  have h : St sv_is_rule (([(eT5 D.str D.str D.str D.int D.int) thing, (eL D.str) kinds] : List D).map some ++ List.replicate (3 - 2) none) (fun r => .rt (D.bl r)) _ := (stIfTM nnRet (orPM (notP (tvP (callP (arPcons (lv (e := (eT5 D.str D.str D.str D.int D.int)) (x := thing) 0) (arPcons (lc (e := eD) (x := .ty "tuple")) (arPnil (e := D.bl) (x := true) (isiK (a := "tuple") rfl (by decide +kernel)))))))) (tvM (l2MP (t_ne enc_int) (callM (arMconsP (EvP.dyn (e := (eT5 D.str D.str D.str D.int D.int)) (lv (e := (eT5 D.str D.str D.str D.int D.int)) (x := thing) 0)) (arMnil (b_lenD _)))) (lc (e := D.int) (x := (5 : Int)))))) (stRet (lc (e := D.bl) (x := false))) (stSkip (stIfT nnRet (orPP (tvP (l2PP (t_nin enc_str) (ixT (e2 := D.str) (y := thing.1) (lv (e := (eT5 D.str D.str D.str D.int D.int)) (x := thing) 0) rfl) (lv (e := (eL D.str)) (x := kinds) 1))) (orPP (tvP (l2PP (t_nink enc_str) (ixT (e2 := D.str) (y := thing.2.1) (lv (e := (eT5 D.str D.str D.str D.int D.int)) (x := thing) 0) rfl) (lc (e := (eK D.str)) (x := [("leap" : Str), ("slide" : Str), ("jump" : Str)])))) (tvP (l2PP (t_nink enc_str) (ixT (e2 := D.str) (y := thing.2.2.1) (lv (e := (eT5 D.str D.str D.str D.int D.int)) (x := thing) 0) rfl) (lc (e := (eK D.str)) (x := [("go" : Str), ("hit" : Str), ("any" : Str)])))))) (stRet (lc (e := D.bl) (x := false))) (stSkip (stIfT nnRet (andPP (tvP (l2PP (t_eq enc_str) (ixT (e2 := D.str) (y := thing.2.1) (lv (e := (eT5 D.str D.str D.str D.int D.int)) (x := thing) 0) rfl) (lc (e := D.str) (x := ("jump" : Str))))) (tvP (l2PP (t_ne enc_str) (ixT (e2 := D.str) (y := thing.2.2.1) (lv (e := (eT5 D.str D.str D.str D.int D.int)) (x := thing) 0) rfl) (lc (e := D.str) (x := ("hit" : Str)))))) (stRet (lc (e := D.bl) (x := false))) (stSkip (stSetM (callM (arMconsP (ixT (e2 := D.str) (y := thing.2.1) (lv (e := (eT5 D.str D.str D.str D.int D.int)) (x := thing) 0) rfl) (arMnil (lf_far_of thing.2.1)))) (fun far => (stIfTM nnRet (orM (notM (tvM (callM (arMconsP (EvP.dyn (e := D.int) (ixT (e2 := D.int) (y := thing.2.2.2.1) (lv (e := (eT5 D.str D.str D.str D.int D.int)) (x := thing) 0) rfl)) (arMconsP (negP (lv (e := D.int) (x := far) 2)) (arMconsP (lv (e := D.int) (x := far) 2) (arMnil (lf_is_among (D.int thing.2.2.2.1) (-far) far)))))))) (notM (tvM (callM (arMconsP (EvP.dyn (e := D.int) (ixT (e2 := D.int) (y := thing.2.2.2.2) (lv (e := (eT5 D.str D.str D.str D.int D.int)) (x := thing) 0) rfl)) (arMconsP (negP (lv (e := D.int) (x := far) 2)) (arMconsP (lv (e := D.int) (x := far) 2) (arMnil (lf_is_among (D.int thing.2.2.2.2) (-far) far))))))))) (stRet (lc (e := D.bl) (x := false))) (stSkip (stRet (vorPP (l2PP (t_ne enc_int) (ixT (e2 := D.int) (y := thing.2.2.2.1) (lv (e := (eT5 D.str D.str D.str D.int D.int)) (x := thing) 0) rfl) (lc (e := D.int) (x := (0 : Int)))) (l2PP (t_ne enc_int) (ixT (e2 := D.int) (y := thing.2.2.2.2) (lv (e := (eT5 D.str D.str D.str D.int D.int)) (x := thing) 0) rfl) (lc (e := D.int) (x := (0 : Int))))))))))))))))
  exact def_of rfl h
theorem lf_are_pairs (thing : (List (Str × Str))) : ∀ r, t_are_pairs thing = some r → den_are_pairs [(eL (eT2 D.str D.str)) thing] = some (D.bl r) := by
  have h : St sv_are_pairs (([(eL (eT2 D.str D.str)) thing] : List D).map some ++ List.replicate (2 - 1) none) (fun r => .rt (D.bl r)) _ := (stIfT nnRet (orPP (notP (tvP (callP (arPcons (lv (e := (eL (eT2 D.str D.str))) (x := thing) 0) (arPcons (lc (e := eD) (x := .ty "list")) (arPnil (e := D.bl) (x := true) (isiK (a := "list") rfl (by decide +kernel)))))))) (tvP (l2PP t_gt (callP (arPcons (lv (e := (eL (eT2 D.str D.str))) (x := thing) 0) (arPnil (e := D.int) (x := (thing.length : Int)) (b_lenL _)))) (lc (e := D.int) (x := (6 : Int)))))) (stRet (lc (e := D.bl) (x := false))) (stSkip (stSeqC (Rr := (fun r => r)) (stForC (E := (fun (v2 : Unit) => ([some ((eL (eT2 D.str D.str)) thing), none] : Dl.Env))) (E' := (fun (v2 : Unit) (pair : (Str × Str)) => ([some ((eL (eT2 D.str D.str)) thing), some ((eT2 D.str D.str) pair)] : Dl.Env))) (e2 := D.bl) () (itL (lv (e := (eL (eT2 D.str D.str))) (x := thing) 0)) (by rfl) (by intro _ _; rfl) (fun v2 pair => (stIfTM nnRet (orPM (notP (tvP (callP (arPcons (lv (e := (eT2 D.str D.str)) (x := pair) 1) (arPcons (lc (e := eD) (x := .ty "tuple")) (arPnil (e := D.bl) (x := true) (isiK (a := "tuple") rfl (by decide +kernel)))))))) (tvM (l2MP (t_ne enc_int) (callM (arMconsP (EvP.dyn (e := (eT2 D.str D.str)) (lv (e := (eT2 D.str D.str)) (x := pair) 1)) (arMnil (b_lenD _)))) (lc (e := D.int) (x := (2 : Int)))))) (stRetC (E := (fun (v2 : Unit) => ([some ((eL (eT2 D.str D.str)) thing), none] : Dl.Env))) (lc (e := D.bl) (x := false))) (stSkip (stWip (stNextC (E := (fun (v2 : Unit) => ([some ((eL (eT2 D.str D.str)) thing), none] : Dl.Env))) (e := D.bl) ())))))) (fun v7 => (stRet (lc (e := D.bl) (x := true)))))))
  exact def_of rfl h
theorem lf_is_turns (thing : (List (Str × Str))) (kinds : (List Str)) : ∀ r, t_is_turns thing kinds = some r → den_is_turns [(eL (eT2 D.str D.str)) thing, (eL D.str) kinds] = some (D.bl r) := by
  have h : St sv_is_turns (([(eL (eT2 D.str D.str)) thing, (eL D.str) kinds] : List D).map some ++ List.replicate (4 - 2) none) (fun r => .rt (D.bl r)) _ := (stIfTM nnRet (notM (tvM (callM (arMconsP (lv (e := (eL (eT2 D.str D.str))) (x := thing) 0) (arMnil (lf_are_pairs thing)))))) (stRet (lc (e := D.bl) (x := false))) (stSkip (stSetI (lstP (arPnil (e := (eL D.str)) (x := []) rfl)) (stSeqC (Rr := (fun r => r)) (stForC (E := (fun (v2 : (List Str)) => ([some ((eL (eT2 D.str D.str)) thing), some ((eL D.str) kinds), some ((eL D.str) v2), none] : Dl.Env))) (E' := (fun (v2 : (List Str)) (pair : (Str × Str)) => ([some ((eL (eT2 D.str D.str)) thing), some ((eL D.str) kinds), some ((eL D.str) v2), some ((eT2 D.str D.str) pair)] : Dl.Env))) (e2 := D.bl) [] (itL (lv (e := (eL (eT2 D.str D.str))) (x := thing) 0)) (by rfl) (by intro _ _; rfl) (fun v2 pair => (stIfT nnRet (orPP (tvP (l2PP (t_nin enc_str) (ixT (e2 := D.str) (y := pair.1) (lv (e := (eT2 D.str D.str)) (x := pair) 3) rfl) (lv (e := (eL D.str)) (x := kinds) 1))) (orPP (tvP (l2PP (t_nin enc_str) (ixT (e2 := D.str) (y := pair.2) (lv (e := (eT2 D.str D.str)) (x := pair) 3) rfl) (lv (e := (eL D.str)) (x := kinds) 1))) (orPP (tvP (l2PP (t_eq enc_str) (ixT (e2 := D.str) (y := pair.1) (lv (e := (eT2 D.str D.str)) (x := pair) 3) rfl) (ixT (e2 := D.str) (y := pair.2) (lv (e := (eT2 D.str D.str)) (x := pair) 3) rfl))) (tvP (l2PP (t_in enc_str) (ixT (e2 := D.str) (y := pair.1) (lv (e := (eT2 D.str D.str)) (x := pair) 3) rfl) (lv (e := (eL D.str)) (x := v2) 2)))))) (stRetC (E := (fun (v2 : (List Str)) => ([some ((eL (eT2 D.str D.str)) thing), some ((eL D.str) kinds), some ((eL D.str) v2), none] : Dl.Env))) (lc (e := D.bl) (x := false))) (stSkip (stApp (ixT (e2 := D.str) (y := pair.1) (lv (e := (eT2 D.str D.str)) (x := pair) 3) rfl) (fun firsts => (stWip (stNextC (E := (fun (v2 : (List Str)) => ([some ((eL (eT2 D.str D.str)) thing), some ((eL D.str) kinds), some ((eL D.str) v2), none] : Dl.Env))) (e := D.bl) firsts)))))))) (fun v3 => (stWip (stSeqC (Rr := (fun r => r)) (stForC (E := (fun (v4 : Unit) => ([some ((eL (eT2 D.str D.str)) thing), none, some ((eL D.str) v3), none] : Dl.Env))) (E' := (fun (v4 : Unit) (pair1 : (Str × Str)) => ([some ((eL (eT2 D.str D.str)) thing), none, some ((eL D.str) v3), some ((eT2 D.str D.str) pair1)] : Dl.Env))) (e2 := D.bl) () (itL (lv (e := (eL (eT2 D.str D.str))) (x := thing) 0)) (by rfl) (by intro _ _; rfl) (fun v4 pair1 => (stIfT nnRet (tvP (l2PP (t_in enc_str) (ixT (e2 := D.str) (y := pair1.2) (lv (e := (eT2 D.str D.str)) (x := pair1) 3) rfl) (lv (e := (eL D.str)) (x := v3) 2))) (stRetC (E := (fun (v4 : Unit) => ([some ((eL (eT2 D.str D.str)) thing), none, some ((eL D.str) v3), none] : Dl.Env))) (lc (e := D.bl) (x := false))) (stSkip (stWip (stNextC (E := (fun (v4 : Unit) => ([some ((eL (eT2 D.str D.str)) thing), none, some ((eL D.str) v3), none] : Dl.Env))) (e := D.bl) ())))))) (fun v5 => (stRet (lc (e := D.bl) (x := true)))))))))))
  exact def_of rfl h
theorem lf_is_ends (thing : (List (Str × Str))) (kinds : (List Str)) : ∀ r, t_is_ends thing kinds = some r → den_is_ends [(eL (eT2 D.str D.str)) thing, (eL D.str) kinds] = some (D.bl r) := by
  have h : St sv_is_ends (([(eL (eT2 D.str D.str)) thing, (eL D.str) kinds] : List D).map some ++ List.replicate (3 - 2) none) (fun r => .rt (D.bl r)) _ := (stIfTM nnRet (notM (tvM (callM (arMconsP (lv (e := (eL (eT2 D.str D.str))) (x := thing) 0) (arMnil (lf_are_pairs thing)))))) (stRet (lc (e := D.bl) (x := false))) (stSkip (stSeqC (Rr := (fun r => r)) (stForC (E := (fun (v2 : Unit) => ([some ((eL (eT2 D.str D.str)) thing), some ((eL D.str) kinds), none] : Dl.Env))) (E' := (fun (v2 : Unit) (pair : (Str × Str)) => ([some ((eL (eT2 D.str D.str)) thing), some ((eL D.str) kinds), some ((eT2 D.str D.str) pair)] : Dl.Env))) (e2 := D.bl) () (itL (lv (e := (eL (eT2 D.str D.str))) (x := thing) 0)) (by rfl) (by intro _ _; rfl) (fun v2 pair => (stIfT nnRet (orPP (tvP (l2PP (t_nink enc_str) (ixT (e2 := D.str) (y := pair.1) (lv (e := (eT2 D.str D.str)) (x := pair) 2) rfl) (lc (e := (eK D.str)) (x := [("without" : Str), ("home" : Str)])))) (tvP (l2PP (t_nin enc_str) (ixT (e2 := D.str) (y := pair.2) (lv (e := (eT2 D.str D.str)) (x := pair) 2) rfl) (lv (e := (eL D.str)) (x := kinds) 1)))) (stRetC (E := (fun (v2 : Unit) => ([some ((eL (eT2 D.str D.str)) thing), some ((eL D.str) kinds), none] : Dl.Env))) (lc (e := D.bl) (x := false))) (stSkip (stWip (stNextC (E := (fun (v2 : Unit) => ([some ((eL (eT2 D.str D.str)) thing), some ((eL D.str) kinds), none] : Dl.Env))) (e := D.bl) ())))))) (fun v3 => (stRet (lc (e := D.bl) (x := true)))))))
  exact def_of rfl h
theorem lf_are_kinds (thing : (List Str)) : ∀ r, t_are_kinds thing = some r → den_are_kinds [(eL D.str) thing] = some (D.bl r) := by
  have h : St sv_are_kinds (([(eL D.str) thing] : List D).map some ++ List.replicate (2 - 1) none) (fun r => .rt (D.bl r)) _ := (stIfT nnRet (orPP (notP (tvP (callP (arPcons (lv (e := (eL D.str)) (x := thing) 0) (arPcons (lc (e := eD) (x := .ty "list")) (arPnil (e := D.bl) (x := true) (isiK (a := "list") rfl (by decide +kernel)))))))) (notP (tvP (chP t_le t_le (lc (e := D.int) (x := (1 : Int))) (callP (arPcons (lv (e := (eL D.str)) (x := thing) 0) (arPnil (e := D.int) (x := (thing.length : Int)) (b_lenL _)))) (lc (e := D.int) (x := (6 : Int))))))) (stRet (lc (e := D.bl) (x := false))) (stSkip (stSeqC (Rr := (fun r => r)) (stForC (E := (fun (v3 : Unit) => ([some ((eL D.str) thing), none] : Dl.Env))) (E' := (fun (v3 : Unit) (kind : Str) => ([some ((eL D.str) thing), some (D.str kind)] : Dl.Env))) (e2 := D.bl) () (itL (lv (e := (eL D.str)) (x := thing) 0)) (by rfl) (by intro _ _; rfl) (fun v3 kind => (stIfTM nnRet (notM (tvM (callM (arMconsP (EvP.dyn (e := D.str) (lv (e := D.str) (x := kind) 1)) (arMnil (lf_is_letter (D.str kind))))))) (stRetC (E := (fun (v3 : Unit) => ([some ((eL D.str) thing), none] : Dl.Env))) (lc (e := D.bl) (x := false))) (stSkip (stWip (stNextC (E := (fun (v3 : Unit) => ([some ((eL D.str) thing), none] : Dl.Env))) (e := D.bl) ())))))) (fun v6 => (stRetM (l2MP (t_eq enc_int) (lenSetSP (lv (e := (eL D.str)) (x := thing) 0)) (callP (arPcons (lv (e := (eL D.str)) (x := thing) 0) (arPnil (e := D.int) (x := (thing.length : Int)) (b_lenL _))))))))))
  exact def_of rfl h
theorem lf_are_rules (thing : (List (Str × Str × Str × Int × Int))) (kinds : (List Str)) : ∀ r, t_are_rules thing kinds = some r → den_are_rules [(eL (eT5 D.str D.str D.str D.int D.int)) thing, (eL D.str) kinds] = some (D.bl r) := by
  have h : St sv_are_rules (([(eL (eT5 D.str D.str D.str D.int D.int)) thing, (eL D.str) kinds] : List D).map some ++ List.replicate (3 - 2) none) (fun r => .rt (D.bl r)) _ := (stIfT nnRet (orPP (notP (tvP (callP (arPcons (lv (e := (eL (eT5 D.str D.str D.str D.int D.int))) (x := thing) 0) (arPcons (lc (e := eD) (x := .ty "list")) (arPnil (e := D.bl) (x := true) (isiK (a := "list") rfl (by decide +kernel)))))))) (tvP (l2PP t_gt (callP (arPcons (lv (e := (eL (eT5 D.str D.str D.str D.int D.int))) (x := thing) 0) (arPnil (e := D.int) (x := (thing.length : Int)) (b_lenL _)))) (lc (e := D.int) (x := (24 : Int)))))) (stRet (lc (e := D.bl) (x := false))) (stSkip (stSeqC (Rr := (fun r => r)) (stForC (E := (fun (v2 : Unit) => ([some ((eL (eT5 D.str D.str D.str D.int D.int)) thing), some ((eL D.str) kinds), none] : Dl.Env))) (E' := (fun (v2 : Unit) (rule : (Str × Str × Str × Int × Int)) => ([some ((eL (eT5 D.str D.str D.str D.int D.int)) thing), some ((eL D.str) kinds), some ((eT5 D.str D.str D.str D.int D.int) rule)] : Dl.Env))) (e2 := D.bl) () (itL (lv (e := (eL (eT5 D.str D.str D.str D.int D.int))) (x := thing) 0)) (by rfl) (by intro _ _; rfl) (fun v2 rule => (stIfTM nnRet (notM (tvM (callM (arMconsP (lv (e := (eT5 D.str D.str D.str D.int D.int)) (x := rule) 2) (arMconsP (lv (e := (eL D.str)) (x := kinds) 1) (arMnil (lf_is_rule rule kinds))))))) (stRetC (E := (fun (v2 : Unit) => ([some ((eL (eT5 D.str D.str D.str D.int D.int)) thing), some ((eL D.str) kinds), none] : Dl.Env))) (lc (e := D.bl) (x := false))) (stSkip (stWip (stNextC (E := (fun (v2 : Unit) => ([some ((eL (eT5 D.str D.str D.str D.int D.int)) thing), some ((eL D.str) kinds), none] : Dl.Env))) (e := D.bl) ())))))) (fun v5 => (stRet (lc (e := D.bl) (x := true)))))))
  exact def_of rfl h
theorem lf_Game__init_ (board : TBoard) (kinds : (List Str)) (rules : (List (Str × Str × Str × Int × Int))) (turns : (List (Str × Str))) (ends : (List (Str × Str))) (stuck : Str) : ∀ r, t_Game__init_ board kinds rules turns ends stuck = some r → denM den_Game__init_ [eBoard board, (eL D.str) kinds, (eL (eT5 D.str D.str D.str D.int D.int)) rules, (eL (eT2 D.str D.str)) turns, (eL (eT2 D.str D.str)) ends, D.str stuck] = some (eGame r) := fun r q => by
  unfold t_Game__init_ at q
  split at q
  · rename_i hs
    have h : ∀ self_a : Addr, St sv_Game__init_ (some (.slf self_a "Game" []) :: (([eBoard board, (eL D.str) kinds, (eL (eT5 D.str D.str D.str D.int D.int)) rules, (eL (eT2 D.str D.str)) turns, (eL (eT2 D.str D.str)) ends, D.str stuck] : List D).map some ++ List.replicate (7 - 7) none)) (fun v => .nx ((fun (v0 : TGame) => ([some (.slf self_a "Game" [("board", eBoard v0.board), ("kinds", (eL D.str) v0.kinds), ("rules", (eL (eT5 D.str D.str D.str D.int D.int)) v0.rules), ("turns", (eL (eT2 D.str D.str)) v0.turns), ("ends", (eL (eT2 D.str D.str)) v0.ends), ("stuck", D.str v0.stuck)]), none, none, none, none, none, none] : Dl.Env)) v)) _ := fun self_a => (stIfTM nnNo (orM (notM (tvM (callM (arMconsP (lv (e := (eL D.str)) (x := kinds) 2) (arMnil (lf_are_kinds kinds)))))) (notM (tvM (callM (arMconsP (lv (e := (eL (eT5 D.str D.str D.str D.int D.int))) (x := rules) 3) (arMconsP (lv (e := (eL D.str)) (x := kinds) 2) (arMnil (lf_are_rules rules kinds)))))))) stNo (stSkip (stIfTM nnNo (orM (notM (tvM (callM (arMconsP (lv (e := (eL (eT2 D.str D.str))) (x := turns) 4) (arMconsP (lv (e := (eL D.str)) (x := kinds) 2) (arMnil (lf_is_turns turns kinds))))))) (orM (notM (tvM (callM (arMconsP (lv (e := (eL (eT2 D.str D.str))) (x := ends) 5) (arMconsP (lv (e := (eL D.str)) (x := kinds) 2) (arMnil (lf_is_ends ends kinds))))))) (TsP.m (tvP (l2PP (t_nink enc_str) (lv (e := D.str) (x := stuck) 6) (lc (e := (eK D.str)) (x := [("lost" : Str), ("even" : Str), ("won" : Str)]))))))) stNo (stSkip (stFld (a := self_a) (c := "Game") (fs := []) (lv (e := eBoard) (x := board) 1) (stFld (a := self_a) (c := "Game") (fs := [("board", eBoard board)]) (callP (arPcons (lv (e := (eL D.str)) (x := kinds) 2) (arPnil (e := (eL D.str)) (x := kinds) (b_listL _)))) (stFld (a := self_a) (c := "Game") (fs := [("board", eBoard board), ("kinds", (eL D.str) kinds)]) (callP (arPcons (lv (e := (eL (eT5 D.str D.str D.str D.int D.int))) (x := rules) 3) (arPnil (e := (eL (eT5 D.str D.str D.str D.int D.int))) (x := rules) (b_listL _)))) (stFld (a := self_a) (c := "Game") (fs := [("board", eBoard board), ("kinds", (eL D.str) kinds), ("rules", (eL (eT5 D.str D.str D.str D.int D.int)) rules)]) (callP (arPcons (lv (e := (eL (eT2 D.str D.str))) (x := turns) 4) (arPnil (e := (eL (eT2 D.str D.str))) (x := turns) (b_listL _)))) (stFld (a := self_a) (c := "Game") (fs := [("board", eBoard board), ("kinds", (eL D.str) kinds), ("rules", (eL (eT5 D.str D.str D.str D.int D.int)) rules), ("turns", (eL (eT2 D.str D.str)) turns)]) (callP (arPcons (lv (e := (eL (eT2 D.str D.str))) (x := ends) 5) (arPnil (e := (eL (eT2 D.str D.str))) (x := ends) (b_listL _)))) (stFld (a := self_a) (c := "Game") (fs := [("board", eBoard board), ("kinds", (eL D.str) kinds), ("rules", (eL (eT5 D.str D.str D.str D.int D.int)) rules), ("turns", (eL (eT2 D.str D.str)) turns), ("ends", (eL (eT2 D.str D.str)) ends)]) (lv (e := D.str) (x := stuck) 6) (stWip (stNext (E := (fun (v0 : TGame) => ([some (.slf self_a "Game" [("board", eBoard v0.board), ("kinds", (eL D.str) v0.kinds), ("rules", (eL (eT5 D.str D.str D.str D.int D.int)) v0.rules), ("turns", (eL (eT2 D.str D.str)) v0.turns), ("ends", (eL (eT2 D.str D.str)) v0.ends), ("stuck", D.str v0.stuck)]), none, none, none, none, none, none] : Dl.Env))) ({ board := board, kinds := kinds, rules := rules, turns := turns, ends := ends, stuck := stuck } : TGame)))))))))))))
    unfold den_Game__init_
    exact init_of (G := (fun (v0 : TGame) => [("board", eBoard v0.board), ("kinds", (eL D.str) v0.kinds), ("rules", (eL (eT5 D.str D.str D.str D.int D.int)) v0.rules), ("turns", (eL (eT2 D.str D.str)) v0.turns), ("ends", (eL (eT2 D.str D.str)) v0.ends), ("stuck", D.str v0.stuck)])) (E := fun self_a => (fun (v0 : TGame) => ([some (.slf self_a "Game" [("board", eBoard v0.board), ("kinds", (eL D.str) v0.kinds), ("rules", (eL (eT5 D.str D.str D.str D.int D.int)) v0.rules), ("turns", (eL (eT2 D.str D.str)) v0.turns), ("ends", (eL (eT2 D.str D.str)) v0.ends), ("stuck", D.str v0.stuck)]), none, none, none, none, none, none] : Dl.Env))) rfl hs h (fun _ _ => rfl) r q
  · cases q
theorem lf_law_cell_at (script : (List Int)) (k : Int) : ∀ r, t_law_cell_at script k = some r → den_law_cell_at [eS script, D.int k] = some (D.int r) := by
  have h : St sv_law_cell_at (([eS script, D.int k] : List D).map some ++ List.replicate (2 - 2) none) (fun r => .rt (D.int r)) _ := (stIfT nnRet (tvP (l2PP t_lt (lv (e := D.int) (x := k) 1) (callP (arPcons (lv (e := eS) (x := script) 0) (arPnil (e := D.int) (x := (script.length : Int)) (b_lenscr _)))))) (stRetM (k2PP p_ixscr (lv (e := eS) (x := script) 0) (lv (e := D.int) (x := k) 1))) (stSkip (stRet (lc (e := D.int) (x := (0 : Int))))))
  exact def_of rfl h
theorem lf_law_mixed (cell : Int) (k : Int) : ∀ r, t_law_mixed cell k = some r → den_law_mixed [D.int cell, D.int k] = some (D.int r) := by
  have h : St sv_law_mixed (([D.int cell, D.int k] : List D).map some ++ List.replicate (2 - 2) none) (fun r => .rt (D.int r)) _ := (stRet (modK (mulK (l2PP t_add (l2PP t_add (lv (e := D.int) (x := cell) 0) (Kmul (lv (e := D.int) (x := k) 1))) (lc (e := D.int) (x := (3 : Int)))))))
  exact def_of rfl h
theorem lf_law_whole (thing : D) : ∀ r, t_law_whole thing = some r → den_law_whole [eD thing] = some (D.bl r) := by
  have h : St sv_law_whole (([eD thing] : List D).map some ++ List.replicate (1 - 1) none) (fun r => .rt (D.bl r)) _ := (stRetM (vandM (callM (arMconsP (lv (e := eD) (x := thing) 0) (arMconsP (lc (e := eD) (x := .ty "int")) (arMnil (b_isiD _ _))))) (vnotM (callM (arMconsP (lv (e := eD) (x := thing) 0) (arMconsP (lc (e := eD) (x := .ty "bool")) (arMnil (b_isiD _ _))))))))
  exact def_of rfl h
theorem lf_law_board (script : (List Int)) : ∀ r, t_law_board script = some r → den_law_board [eS script] = some ((eT3 D.int D.int (eL D.int)) r) := by
  have h : St sv_law_board (([eS script] : List D).map some ++ List.replicate (7 - 1) none) (fun r => .rt ((eT3 D.int D.int (eL D.int)) r)) _ := (stSetM (callM (arMconsP (lv (e := eS) (x := script) 0) (arMconsP (lc (e := D.int) (x := (0 : Int))) (arMnil (lf_law_cell_at script (0 : Int)))))) (fun cell => (stSet (l2PP t_add (lc (e := D.int) (x := (1 : Int))) (modK (lv (e := D.int) (x := cell) 1))) (fun wide => (stSet (l2PP t_add (lc (e := D.int) (x := (1 : Int))) (modK (divK (lv (e := D.int) (x := cell) 1)))) (fun high => (stSeq (stIf (tvP (l2PP (t_eq enc_int) (modK (divK (lv (e := D.int) (x := cell) 1))) (lc (e := D.int) (x := (5 : Int))))) (stSet (l2PP t_add (lc (e := D.int) (x := (1 : Int))) (modK (divK (lv (e := D.int) (x := cell) 1)))) (fun wide1 => (stSet (l2PP t_add (lc (e := D.int) (x := (1 : Int))) (modK (divK (lv (e := D.int) (x := cell) 1)))) (fun high1 => (stWip (stNext (E := (fun (v1 : (Int × Int)) => ([some (eS script), none, some (D.int v1.1), some (D.int v1.2), none, none, none] : Dl.Env))) (wide1, high1))))))) (stWip (stNext (E := (fun (v1 : (Int × Int)) => ([some (eS script), none, some (D.int v1.1), some (D.int v1.2), none, none, none] : Dl.Env))) (wide, high)))) (fun v1 => (stSetM (callM (arMconsP (lv (e := eS) (x := script) 0) (arMconsP (lc (e := D.int) (x := (1 : Int))) (arMnil (lf_law_cell_at script (1 : Int)))))) (fun cell1 => (stSetI (lstP (arPnil (e := (eL D.int)) (x := []) rfl)) (stWip (stSeq (stForM (E := (fun (v4 : (List Int)) => ([none, some (D.int cell1), some (D.int v1.1), some (D.int v1.2), some ((eL D.int) v4), none, none] : Dl.Env))) (E' := (fun (v4 : (List Int)) (k : Int) => ([none, some (D.int cell1), some (D.int v1.1), some (D.int v1.2), some ((eL D.int) v4), some (D.int k), none] : Dl.Env))) [] (itRM (k2PP p_ixl (lstP (arPcons (lc (e := D.int) (x := (0 : Int))) (arPcons (lc (e := D.int) (x := (0 : Int))) (arPcons (lc (e := D.int) (x := (1 : Int))) (arPcons (lc (e := D.int) (x := (2 : Int))) (arPnil (e := (eL D.int)) (x := [(0 : Int), (0 : Int), (1 : Int), (2 : Int)]) rfl)))))) (modK (lv (e := D.int) (x := cell1) 1)))) (by rfl) (by intro _ _; rfl) (fun v4 k => (stSetM (k2MM p_mod (callM (arMconsP (divK (lv (e := D.int) (x := cell1) 1)) (arMconsP (lv (e := D.int) (x := k) 5) (arMnil (lf_law_mixed (cell1 / 4) k))))) (k2PP p_mul (lv (e := D.int) (x := v1.1) 2) (lv (e := D.int) (x := v1.2) 3))) (fun hole => (stSeq (stIfM (andPM (tvP (l2PP (t_nin enc_int) (lv (e := D.int) (x := hole) 6) (lv (e := (eL D.int)) (x := v4) 4))) (tvM (l2PM t_lt (l2PP t_add (callP (arPcons (lv (e := (eL D.int)) (x := v4) 4) (arPnil (e := D.int) (x := (v4.length : Int)) (b_lenL _)))) (lc (e := D.int) (x := (1 : Int)))) (k2PP p_mul (lv (e := D.int) (x := v1.1) 2) (lv (e := D.int) (x := v1.2) 3))))) (stApp (lv (e := D.int) (x := hole) 6) (fun holes => (stWip (stNext (E := (fun (v13 : (List Int)) => ([none, some (D.int cell1), some (D.int v1.1), some (D.int v1.2), some ((eL D.int) v13), none, none] : Dl.Env))) holes)))) (stWip (stNext (E := (fun (v13 : (List Int)) => ([none, some (D.int cell1), some (D.int v1.1), some (D.int v1.2), some ((eL D.int) v13), none, none] : Dl.Env))) v4))) (fun v13 => (stNext (E := (fun (v4 : (List Int)) => ([none, some (D.int cell1), some (D.int v1.1), some (D.int v1.2), some ((eL D.int) v4), none, none] : Dl.Env))) v13))))))) (fun v15 => (stRet (tupP (arPcons (lv (e := D.int) (x := v1.1) 2) (arPcons (lv (e := D.int) (x := v1.2) 3) (arPcons (lv (e := (eL D.int)) (x := v15) 4) (arPnil (e := (eT3 D.int D.int (eL D.int))) (x := (v1.1, v1.2, v15)) rfl))))))))))))))))))))
  exact def_of rfl h
theorem lf_law_kinds (cell : Int) : ∀ r, t_law_kinds cell = some r → den_law_kinds [D.int cell] = some ((eL D.str) r) := by
  have h : St sv_law_kinds (([D.int cell] : List D).map some ++ List.replicate (4 - 1) none) (fun r => .rt ((eL D.str) r)) _ := (stSetI (lc (e := D.str) (x := ("abcdefghijklmnopqrstuvwxyz" : Str))) (stSetM (k2PP p_ixl (lstP (arPcons (lc (e := D.int) (x := (1 : Int))) (arPcons (lc (e := D.int) (x := (3 : Int))) (arPcons (lc (e := D.int) (x := (5 : Int))) (arPcons (lc (e := D.int) (x := (7 : Int))) (arPcons (lc (e := D.int) (x := (9 : Int))) (arPcons (lc (e := D.int) (x := (11 : Int))) (arPnil (e := (eL D.int)) (x := [(1 : Int), (3 : Int), (5 : Int), (7 : Int), (9 : Int), (11 : Int)]) rfl)))))))) (modK (divK (lv (e := D.int) (x := cell) 0)))) (fun step => (stRetM (lcM (E' := (fun (k : Int) => ([some (D.int cell), some (D.str ("abcdefghijklmnopqrstuvwxyz" : Str)), some (D.int step), some (D.int k)] : Dl.Env))) (e2 := D.str) (itRM (k2PP p_ixl (lstP (arPcons (lc (e := D.int) (x := (1 : Int))) (arPcons (lc (e := D.int) (x := (2 : Int))) (arPcons (lc (e := D.int) (x := (2 : Int))) (arPcons (lc (e := D.int) (x := (3 : Int))) (arPcons (lc (e := D.int) (x := (3 : Int))) (arPcons (lc (e := D.int) (x := (1 : Int))) (arPcons (lc (e := D.int) (x := (6 : Int))) (arPcons (lc (e := D.int) (x := (4 : Int))) (arPnil (e := (eL D.int)) (x := [(1 : Int), (2 : Int), (2 : Int), (3 : Int), (3 : Int), (1 : Int), (6 : Int), (4 : Int)]) rfl)))))))))) (modK (lv (e := D.int) (x := cell) 0)))) (by intro _; rfl) (fun (k : Int) => (TsP.m yesP)) (fun (k : Int) => (k2PM p_ixs (lv (e := D.str) (x := ("abcdefghijklmnopqrstuvwxyz" : Str)) 1) (modKM (l2PM t_add (divK (lv (e := D.int) (x := cell) 0)) (k2PP p_mul (lv (e := D.int) (x := step) 2) (lv (e := D.int) (x := k) 3)))))))))))
  exact def_of rfl h
theorem lf_law_row (script : (List Int)) (game : TGame) (start : Int) : ∀ r, t_law_row script game start = some r → den_law_row [eS script, eGame game, D.int start] = some (D.str r) := by
  have h : St sv_law_row (([eS script, eGame game, D.int start] : List D).map some ++ List.replicate (13 - 3) none) (fun r => .rt (D.str r)) _ := (stSetM (k2PP p_mul (fldP (e2 := D.int) (y := game.board.wide) (fldP (e2 := eBoard) (y := game.board) (lv (e := eGame) (x := game) 1))) (fldP (e2 := D.int) (y := game.board.high) (fldP (e2 := eBoard) (y := game.board) (lv (e := eGame) (x := game) 1)))) (fun size => (stSetM (lcM (E' := (fun (square : Int) => ([some (eS script), some (eGame game), some (D.int start), some (D.int size), none, none, none, none, none, none, some (D.int square), none, none] : Dl.Env))) (e2 := D.int) (itR (lv (e := D.int) (x := size) 3)) (by intro _; rfl) (fun (square : Int) => (TsP.m (tvP (l2PP (t_nin enc_int) (lv (e := D.int) (x := square) 10) (fldP (e2 := (eL D.int)) (y := game.board.holes) (fldP (e2 := eBoard) (y := game.board) (lv (e := eGame) (x := game) 1))))))) (fun (square : Int) => (EvP.m (lv (e := D.int) (x := square) 10)))) (fun free => (stSetM (lcM (E' := (fun (square1 : Int) => ([some (eS script), some (eGame game), some (D.int start), some (D.int size), some ((eL D.int) free), none, none, none, none, none, some (D.int square1), none, none] : Dl.Env))) (e2 := D.str) (itR (lv (e := D.int) (x := size) 3)) (by intro _; rfl) (fun (square1 : Int) => (TsP.m yesP)) (fun (square1 : Int) => (k2PP p_ixs (lc (e := D.str) (x := (".#" : Str))) (callP (arPcons (l2PP (t_in enc_int) (lv (e := D.int) (x := square1) 10) (fldP (e2 := (eL D.int)) (y := game.board.holes) (fldP (e2 := eBoard) (y := game.board) (lv (e := eGame) (x := game) 1)))) (arPnil (e := D.int) (x := (b2i (decide (square1 ∈ game.board.holes)))) (b_intB _))))))) (fun signs => (stSetM (callM (arMconsP (lv (e := eS) (x := script) 0) (arMconsP (lv (e := D.int) (x := start) 2) (arMnil (lf_law_cell_at script start))))) (fun cell => (stSetM (lcM (E' := (fun (k : Int) => ([some (eS script), some (eGame game), some (D.int start), some (D.int size), some ((eL D.int) free), some ((eL D.str) signs), some (D.int cell), none, none, some (D.int k), none, none, none] : Dl.Env))) (e2 := D.int) (ItP.m (itRc (lc (e := D.int) (x := (6 : Int))))) (by intro _; rfl) (fun (k : Int) => (TsP.m yesP)) (fun (k : Int) => (callM (arMconsM (callM (arMconsP (lv (e := eS) (x := script) 0) (arMconsP (l2PP t_add (l2PP t_add (lv (e := D.int) (x := start) 2) (lc (e := D.int) (x := (1 : Int)))) (lv (e := D.int) (x := k) 9)) (arMnil (lf_law_cell_at script ((start + (1 : Int)) + k)))))) (fun z15 => (arMconsP (lv (e := D.int) (x := k) 9) (arMnil (lf_law_mixed z15 k)))))))) (fun cells => (stSetM (lcM (E' := (fun (more : Int) => ([some (eS script), some (eGame game), some (D.int start), some (D.int size), some ((eL D.int) free), some ((eL D.str) signs), some (D.int cell), some ((eL D.int) cells), none, none, none, some (D.int more), none] : Dl.Env))) (e2 := D.int) (ItP.m (itL (slP s_l (lv (e := (eL D.int)) (x := cells) 7) ptN (ptP (l2PP t_add (lc (e := D.int) (x := (1 : Int))) (modK (lv (e := D.int) (x := cell) 6))))))) (by intro _; rfl) (fun (more : Int) => (TsP.m yesP)) (fun (more : Int) => (k2PM p_ixl (lv (e := (eL D.int)) (x := free) 4) (k2PP p_mod (lv (e := D.int) (x := more) 11) (callP (arPcons (lv (e := (eL D.int)) (x := free) 4) (arPnil (e := D.int) (x := (free.length : Int)) (b_lenL _)))))))) (fun spots => (stSeq (stIf (tvP (l2PP (t_eq enc_int) (modK (divK (lv (e := D.int) (x := cell) 6))) (lc (e := D.int) (x := (1 : Int))))) (stSet (slP s_l (lv (e := (eL D.int)) (x := free) 4) ptN (ptP (lc (e := D.int) (x := (12 : Int))))) (fun spots1 => (stWip (stNext (E := (fun (v23 : (List Int)) => ([none, some (eGame game), none, none, none, some ((eL D.str) signs), some (D.int cell), some ((eL D.int) cells), some ((eL D.int) v23), none, none, none, none] : Dl.Env))) spots1)))) (stWip (stNext (E := (fun (v23 : (List Int)) => ([none, some (eGame game), none, none, none, some ((eL D.str) signs), some (D.int cell), some ((eL D.int) cells), some ((eL D.int) v23), none, none, none, none] : Dl.Env))) spots))) (fun v23 => (stSeq (stIf (tvP (l2PP (t_eq enc_int) (modK (divK (lv (e := D.int) (x := cell) 6))) (lc (e := D.int) (x := (2 : Int))))) (stSetI (lstP (arPnil (e := (eL D.int)) (x := []) rfl)) (stWip (stNext (E := (fun (v25 : (List Int)) => ([none, some (eGame game), none, none, none, some ((eL D.str) signs), none, some ((eL D.int) cells), some ((eL D.int) v25), none, none, none, none] : Dl.Env))) []))) (stWip (stNext (E := (fun (v25 : (List Int)) => ([none, some (eGame game), none, none, none, some ((eL D.str) signs), none, some ((eL D.int) cells), some ((eL D.int) v25), none, none, none, none] : Dl.Env))) v23))) (fun v25 => (stSeq (stFor (E := (fun (v26 : (List Str)) => ([none, some (eGame game), none, none, none, some ((eL D.str) v26), none, some ((eL D.int) cells), some ((eL D.int) v25), none, none, none, none] : Dl.Env))) (E' := (fun (v26 : (List Str)) (item : (Int × Int)) => ([none, some (eGame game), none, none, none, some ((eL D.str) v26), none, some ((eL D.int) cells), some ((eL D.int) v25), some (D.int item.1), some (D.int item.2), none, none] : Dl.Env))) signs (itEnL (lv (e := (eL D.int)) (x := v25) 8)) (by rfl) (by intro _ _; rfl) (fun v26 item => (stSetM (l2MP t_add (k2PP p_ixl (lv (e := (eL D.int)) (x := cells) 7) (modK (lv (e := D.int) (x := item.1) 9))) (Kmul (divK (lv (e := D.int) (x := item.1) 9)))) (fun more1 => (stSetM (k2PM p_ixl (fldP (e2 := (eL D.str)) (y := game.kinds) (lv (e := eGame) (x := game) 1)) (k2PP p_mod (divK (lv (e := D.int) (x := more1) 11)) (callP (arPcons (fldP (e2 := (eL D.str)) (y := game.kinds) (lv (e := eGame) (x := game) 1)) (arPnil (e := D.int) (x := (game.kinds.length : Int)) (b_lenL _)))))) (fun kind => (stPutM (k2MP p_ixl (lstM (arMconsM (sm0M (smMP (lv (e := D.str) (x := kind) 12) ( (arMnil (m_upper _))))) (fun z37 => (arMconsP (lv (e := D.str) (x := kind) 12) (arMtot (e := (eL D.str)) (x := [z37, kind]) rfl))))) (modK (divK (lv (e := D.int) (x := more1) 11)))) (EvP.m (lv (e := D.int) (x := item.2) 10)) (fun signs1 => (stWip (stNext (E := (fun (v26 : (List Str)) => ([none, some (eGame game), none, none, none, some ((eL D.str) v26), none, some ((eL D.int) cells), some ((eL D.int) v25), none, none, none, none] : Dl.Env))) signs1)))))))))) (fun v42 => (stRetM (smMP (lc (e := D.str) (x := ("" : Str))) ( (arMconsP (lv (e := (eL D.str)) (x := v42) 5) (arMnil (m_join _ _))))))))))))))))))))))))
  exact def_of rfl h
theorem lf_law_lines (place : (Str × Int)) (wide : Int) (high : Int) : ∀ r, t_law_lines place wide high = some r → den_law_lines [(eT2 D.str D.int) place, D.int wide, D.int high] = some ((eL D.str) r) := by
  have h : St sv_law_lines (([(eT2 D.str D.int) place, D.int wide, D.int high] : List D).map some ++ List.replicate (6 - 3) none) (fun r => .rt ((eL D.str) r)) _ := (stSetI (lstP (arPnil (e := (eL D.str)) (x := []) rfl)) (stSeq (stForM (E := (fun (v1 : (List Str)) => ([some ((eT2 D.str D.int) place), some (D.int wide), some (D.int high), some ((eL D.str) v1), none, none] : Dl.Env))) (E' := (fun (v1 : (List Str)) (k : Int) => ([some ((eT2 D.str D.int) place), some (D.int wide), some (D.int high), some ((eL D.str) v1), some (D.int k), none] : Dl.Env))) [] (itR (lv (e := D.int) (x := high) 2)) (by rfl) (by intro _ _; rfl) (fun v1 k => (stSetM (k2PP p_mul (l2PP t_sub (l2PP t_sub (lv (e := D.int) (x := high) 2) (lc (e := D.int) (x := (1 : Int)))) (lv (e := D.int) (x := k) 4)) (lv (e := D.int) (x := wide) 1)) (fun begin => (stApp (slP s_s (ixT (e2 := D.str) (y := place.1) (lv (e := (eT2 D.str D.int)) (x := place) 0) rfl) (ptP (lv (e := D.int) (x := begin) 5)) (ptP (l2PP t_add (lv (e := D.int) (x := begin) 5) (lv (e := D.int) (x := wide) 1)))) (fun lines_here => (stWip (stNext (E := (fun (v1 : (List Str)) => ([some ((eT2 D.str D.int) place), some (D.int wide), some (D.int high), some ((eL D.str) v1), none, none] : Dl.Env))) lines_here)))))))) (fun v6 => (stRetM (k2PM p_catl (lv (e := (eL D.str)) (x := v6) 3) (lstM (arMconsM (k2PP p_ixl (lstP (arPcons (lc (e := D.str) (x := ("first" : Str))) (arPcons (lc (e := D.str) (x := ("second" : Str))) (arPnil (e := (eL D.str)) (x := [("first" : Str), ("second" : Str)]) rfl)))) (ixT (e2 := D.int) (y := place.2) (lv (e := (eT2 D.str D.int)) (x := place) 0) rfl)) (fun z9 => (arMtot (e := (eL D.str)) (x := [z9]) rfl)))))))))
  exact def_of rfl h
theorem lf_law_line_changed (lines_here : (List Str)) (cell : Int) (kinds_here : (List Str)) : ∀ r, t_law_line_changed lines_here cell kinds_here = some r → den_law_line_changed [(eL D.str) lines_here, D.int cell, (eL D.str) kinds_here] = some ((eL D.str) r) := by
  have h : St sv_law_line_changed (([(eL D.str) lines_here, D.int cell, (eL D.str) kinds_here] : List D).map some ++ List.replicate (8 - 3) none) (fun r => .rt ((eL D.str) r)) _ := (stSetM (k2PP p_mod (divK (lv (e := D.int) (x := cell) 1)) (callP (arPcons (lv (e := (eL D.str)) (x := lines_here) 0) (arPnil (e := D.int) (x := (lines_here.length : Int)) (b_lenL _))))) (fun at_ => (stSetM (EvM.dyn (e := D.str) (k2PP p_ixl (lv (e := (eL D.str)) (x := lines_here) 0) (lv (e := D.int) (x := at_) 3))) (fun one => (stSetM (k2PM p_mod (divK (lv (e := D.int) (x := cell) 1)) (l2MP t_add (callM (arMconsP (lv (e := eD) (x := one) 4) (arMnil (b_lenD _)))) (lc (e := D.int) (x := (1 : Int))))) (fun place => (stSetM (k2MP p_cats (k2MM p_cats (k2PM p_cats (lc (e := D.str) (x := (".#" : Str))) (smMP (lc (e := D.str) (x := ("" : Str))) ( (arMconsP (lv (e := (eL D.str)) (x := kinds_here) 2) (arMnil (m_join _ _)))))) (sm0M (smMM (smMP (lc (e := D.str) (x := ("" : Str))) ( (arMconsP (lv (e := (eL D.str)) (x := kinds_here) 2) (arMnil (m_join _ _))))) (fun z12 => ( (arMnil (m_upper _))))))) (lc (e := D.str) (x := ("Qz 1first" : Str)))) (fun signs => (stSetM (k2PM p_ixs (lv (e := D.str) (x := signs) 6) (k2PP p_mod (divK (lv (e := D.int) (x := cell) 1)) (callP (arPcons (lv (e := D.str) (x := signs) 6) (arPnil (e := D.int) (x := (signs.length : Int)) (b_lenS _)))))) (fun sign => (stSetM (EvM.dyn (e := (eL eD)) (lstM (arMconsM (EvM.dyn (e := D.str) (k2MM p_cats (k2MP p_cats (EvM.cast (slD (EvP.m (lv (e := eD) (x := one) 4)) (PtP.m ptN) (PtP.m (ptP (lv (e := D.int) (x := place) 5)))) cS_ok) (lv (e := D.str) (x := sign) 7)) (EvM.cast (slD (EvP.m (lv (e := eD) (x := one) 4)) (PtP.m (ptP (lv (e := D.int) (x := place) 5))) (PtP.m ptN)) cS_ok))) (fun z57 => (arMconsM (k2MM (d_op opAdd) (slD (EvP.m (lv (e := eD) (x := one) 4)) (PtP.m ptN) (PtP.m (ptP (lv (e := D.int) (x := place) 5)))) (slD (EvP.m (lv (e := eD) (x := one) 4)) (PtP.m (ptP (l2PP t_add (lv (e := D.int) (x := place) 5) (lc (e := D.int) (x := (1 : Int)))))) (PtP.m ptN))) (fun z58 => (arMconsM (EvM.dyn (e := D.str) (k2MM p_cats (k2MP p_cats (EvM.cast (slD (EvP.m (lv (e := eD) (x := one) 4)) (PtP.m ptN) (PtP.m (ptP (lv (e := D.int) (x := place) 5)))) cS_ok) (lv (e := D.str) (x := sign) 7)) (EvM.cast (slD (EvP.m (lv (e := eD) (x := one) 4)) (PtP.m (ptP (l2PP t_add (lv (e := D.int) (x := place) 5) (lc (e := D.int) (x := (1 : Int)))))) (PtP.m ptN)) cS_ok))) (fun z59 => (arMtot (e := (eL eD)) (x := [z57, z58, z59]) rfl))))))))) (fun one1 => (stSetM (k2PP (d_op opIx) (lv (e := eD) (x := one1) 4) (EvP.dyn (e := D.int) (modK (divK (lv (e := D.int) (x := cell) 1))))) (fun one2 => (stRetM (k2MP p_catl (k2PM p_catl (slP s_l (lv (e := (eL D.str)) (x := lines_here) 0) ptN (ptP (lv (e := D.int) (x := at_) 3))) (lstM (arMconsM (EvP.cast (lv (e := eD) (x := one2) 4) cS_ok) (fun z64 => (arMtot (e := (eL D.str)) (x := [z64]) rfl))))) (slP s_l (lv (e := (eL D.str)) (x := lines_here) 0) (ptP (l2PP t_add (lv (e := D.int) (x := at_) 3) (lc (e := D.int) (x := (1 : Int))))) ptN)))))))))))))))))
  exact def_of rfl h
theorem lf_law_changed (lines_here : (List Str)) (cell : Int) (kinds_here : (List Str)) : ∀ r, t_law_changed lines_here cell kinds_here = some r → den_law_changed [(eL D.str) lines_here, D.int cell, (eL D.str) kinds_here] = some ((eL D.str) r) := by
  have h : St sv_law_changed (([(eL D.str) lines_here, D.int cell, (eL D.str) kinds_here] : List D).map some ++ List.replicate (5 - 3) none) (fun r => .rt ((eL D.str) r)) _ := (stSet (modK (lv (e := D.int) (x := cell) 1)) (fun kind => (stSetM (k2PP p_mod (divK (lv (e := D.int) (x := cell) 1)) (callP (arPcons (lv (e := (eL D.str)) (x := lines_here) 0) (arPnil (e := D.int) (x := (lines_here.length : Int)) (b_lenL _))))) (fun at_ => (stIfT nnRet (tvP (l2PP (t_eq enc_int) (lv (e := D.int) (x := kind) 3) (lc (e := D.int) (x := (1 : Int))))) (stRetM (k2PP p_addl (slP s_l (lv (e := (eL D.str)) (x := lines_here) 0) ptN (ptP (lv (e := D.int) (x := at_) 4))) (slP s_l (lv (e := (eL D.str)) (x := lines_here) 0) (ptP (l2PP t_add (lv (e := D.int) (x := at_) 4) (lc (e := D.int) (x := (1 : Int))))) ptN))) (stSkip (stIfT nnRet (tvP (l2PP (t_eq enc_int) (lv (e := D.int) (x := kind) 3) (lc (e := D.int) (x := (2 : Int))))) (stRetM (k2MP p_addl (k2PP p_addl (slP s_l (lv (e := (eL D.str)) (x := lines_here) 0) ptN (ptP (lv (e := D.int) (x := at_) 4))) (slP s_l (lv (e := (eL D.str)) (x := lines_here) 0) (ptP (lv (e := D.int) (x := at_) 4)) (ptP (l2PP t_add (lv (e := D.int) (x := at_) 4) (lc (e := D.int) (x := (1 : Int))))))) (slP s_l (lv (e := (eL D.str)) (x := lines_here) 0) (ptP (lv (e := D.int) (x := at_) 4)) ptN))) (stSkip (stIfT nnRet (tvP (l2PP (t_eq enc_int) (lv (e := D.int) (x := kind) 3) (lc (e := D.int) (x := (3 : Int))))) (stRetM (k2PP p_addl (slP s_l (lv (e := (eL D.str)) (x := lines_here) 0) (ptP (lv (e := D.int) (x := at_) 4)) ptN) (slP s_l (lv (e := (eL D.str)) (x := lines_here) 0) ptN (ptP (lv (e := D.int) (x := at_) 4))))) (stSkip (stIfT nnRet (tvP (l2PP (t_eq enc_int) (lv (e := D.int) (x := kind) 3) (lc (e := D.int) (x := (4 : Int))))) (stRetM (k2PM p_catl (slP s_l (lv (e := (eL D.str)) (x := lines_here) 0) ptN (ptP (negP (lc (e := D.int) (x := (1 : Int)))))) (lstM (arMconsM (k2PP p_ixl (lstP (arPcons (lc (e := D.str) (x := ("first" : Str))) (arPcons (lc (e := D.str) (x := ("second" : Str))) (arPcons (lc (e := D.str) (x := ("First" : Str))) (arPcons (lc (e := D.str) (x := ("" : Str))) (arPcons (lc (e := D.str) (x := ("third" : Str))) (arPcons (lc (e := D.str) (x := ("0" : Str))) (arPcons (lc (e := D.str) (x := ("second " : Str))) (arPcons (lc (e := D.str) (x := ("firs" : Str))) (arPnil (e := (eL D.str)) (x := [("first" : Str), ("second" : Str), ("First" : Str), ("" : Str), ("third" : Str), ("0" : Str), ("second " : Str), ("firs" : Str)]) rfl)))))))))) (modK (divK (lv (e := D.int) (x := cell) 1)))) (fun z23 => (arMtot (e := (eL D.str)) (x := [z23]) rfl)))))) (stSkip (stIfT nnRet (andPP (tvP (l2PP (t_eq enc_int) (lv (e := D.int) (x := kind) 3) (lc (e := D.int) (x := (5 : Int))))) (tvP (l2PP (t_eq enc_int) (modK (divK (lv (e := D.int) (x := cell) 1))) (lc (e := D.int) (x := (1 : Int)))))) (stRet (lstP (arPnil (e := (eL D.str)) (x := []) rfl))) (stSkip (stIfT (nnSeq nnRet) (andPP (tvP (l2PP (t_eq enc_int) (lv (e := D.int) (x := kind) 3) (lc (e := D.int) (x := (6 : Int))))) (tvP (l2PP t_gt (callP (arPcons (lv (e := (eL D.str)) (x := lines_here) 0) (arPnil (e := D.int) (x := (lines_here.length : Int)) (b_lenL _)))) (lc (e := D.int) (x := (2 : Int)))))) (stSetM (k2PP p_mod (divK (lv (e := D.int) (x := cell) 1)) (l2PP t_sub (callP (arPcons (lv (e := (eL D.str)) (x := lines_here) 0) (arPnil (e := D.int) (x := (lines_here.length : Int)) (b_lenL _)))) (lc (e := D.int) (x := (2 : Int))))) (fun at_1 => (stRetM (k2MP p_catl (k2PM p_catl (slP s_l (lv (e := (eL D.str)) (x := lines_here) 0) ptN (ptP (lv (e := D.int) (x := at_1) 4))) (lstM (arMconsM (slM s_s (k2PP p_ixl (lv (e := (eL D.str)) (x := lines_here) 0) (lv (e := D.int) (x := at_1) 4)) (PtP.m ptN) (PtP.m (ptP (negP (lc (e := D.int) (x := (1 : Int))))))) (fun z47 => (arMconsM (k2MM p_cats (slM s_s (k2PP p_ixl (lv (e := (eL D.str)) (x := lines_here) 0) (lv (e := D.int) (x := at_1) 4)) (PtP.m (ptP (negP (lc (e := D.int) (x := (1 : Int)))))) (PtP.m ptN)) (k2PP p_ixl (lv (e := (eL D.str)) (x := lines_here) 0) (l2PP t_add (lv (e := D.int) (x := at_1) 4) (lc (e := D.int) (x := (1 : Int)))))) (fun z48 => (arMtot (e := (eL D.str)) (x := [z47, z48]) rfl))))))) (slP s_l (lv (e := (eL D.str)) (x := lines_here) 0) (ptP (l2PP t_add (lv (e := D.int) (x := at_1) 4) (lc (e := D.int) (x := (2 : Int))))) ptN))))) (stSkip (stIfT nnRet (tvP (l2PP t_gt (lv (e := D.int) (x := kind) 3) (lc (e := D.int) (x := (5 : Int))))) (stRet (lv (e := (eL D.str)) (x := lines_here) 0)) (stSkip (stRetM (callM (arMconsP (lv (e := (eL D.str)) (x := lines_here) 0) (arMconsP (lv (e := D.int) (x := cell) 1) (arMconsP (lv (e := (eL D.str)) (x := kinds_here) 2) (arMnil (lf_law_line_changed lines_here cell kinds_here)))))))))))))))))))))))))
  exact def_of rfl h
theorem lf_law_read (lines_here : (List Str)) (wide : Int) (high : Int) (holes : (List Int)) (kinds_here : (List Str)) : ∀ r, t_law_read lines_here wide high holes kinds_here = some r → den_law_read [(eL D.str) lines_here, D.int wide, D.int high, (eL D.int) holes, (eL D.str) kinds_here] = some ((eO (eT2 D.str D.int)) r) := by
  have h : St sv_law_read (([(eL D.str) lines_here, D.int wide, D.int high, (eL D.int) holes, (eL D.str) kinds_here] : List D).map some ++ List.replicate (10 - 5) none) (fun r => .rt ((eO (eT2 D.str D.int)) r)) _ := (stIfTM nnRet (orPM (tvP (l2PP (t_ne enc_int) (callP (arPcons (lv (e := (eL D.str)) (x := lines_here) 0) (arPnil (e := D.int) (x := (lines_here.length : Int)) (b_lenL _)))) (l2PP t_add (lv (e := D.int) (x := high) 2) (lc (e := D.int) (x := (1 : Int)))))) (tvM (l2MP (t_nin enc_str) (k2PP p_ixl (lv (e := (eL D.str)) (x := lines_here) 0) (negP (lc (e := D.int) (x := (1 : Int))))) (lstP (arPcons (lc (e := D.str) (x := ("first" : Str))) (arPcons (lc (e := D.str) (x := ("second" : Str))) (arPnil (e := (eL D.str)) (x := [("first" : Str), ("second" : Str)]) rfl))))))) (stRet (lc (e := (eO (eT2 D.str D.int))) (x := none))) (stSkip (stSetI (lc (e := D.str) (x := ("" : Str))) (stSeqC (Rr := (fun r => r)) (stForC (E := (fun (v8 : Str) => ([some ((eL D.str) lines_here), some (D.int wide), some (D.int high), some ((eL D.int) holes), some ((eL D.str) kinds_here), some (D.str v8), none, none, none, none] : Dl.Env))) (E' := (fun (v8 : Str) (one : Str) => ([some ((eL D.str) lines_here), some (D.int wide), some (D.int high), some ((eL D.int) holes), some ((eL D.str) kinds_here), some (D.str v8), some (D.str one), none, none, none] : Dl.Env))) (e2 := (eO (eT2 D.str D.int))) ("" : Str) (itL (slP s_l (lv (e := (eL D.str)) (x := lines_here) 0) ptN (ptP (negP (lc (e := D.int) (x := (1 : Int))))))) (by rfl) (by intro _ _; rfl) (fun v8 one => (stIfT nnRet (tvP (l2PP (t_ne enc_int) (callP (arPcons (lv (e := D.str) (x := one) 6) (arPnil (e := D.int) (x := (one.length : Int)) (b_lenS _)))) (lv (e := D.int) (x := wide) 1))) (stRetC (E := (fun (v8 : Str) => ([some ((eL D.str) lines_here), some (D.int wide), some (D.int high), some ((eL D.int) holes), some ((eL D.str) kinds_here), some (D.str v8), none, none, none, none] : Dl.Env))) (lc (e := (eO (eT2 D.str D.int))) (x := none))) (stSkip (stSetM (k2PP p_cats (lv (e := D.str) (x := one) 6) (lv (e := D.str) (x := v8) 5)) (fun row_here => (stWip (stNextC (E := (fun (v8 : Str) => ([some ((eL D.str) lines_here), some (D.int wide), some (D.int high), some ((eL D.int) holes), some ((eL D.str) kinds_here), some (D.str v8), none, none, none, none] : Dl.Env))) (e := (eO (eT2 D.str D.int))) row_here)))))))) (fun v11 => (stSetM (k2MP p_catl (k2PM p_catl (lv (e := (eL D.str)) (x := kinds_here) 4) (lcM (E' := (fun (kind : Str) => ([some ((eL D.str) lines_here), some (D.int wide), some (D.int high), some ((eL D.int) holes), some ((eL D.str) kinds_here), some (D.str v11), none, none, none, some (D.str kind)] : Dl.Env))) (e2 := D.str) (ItP.m (itL (lv (e := (eL D.str)) (x := kinds_here) 4))) (by intro _; rfl) (fun (kind : Str) => (TsP.m yesP)) (fun (kind : Str) => (sm0M (smMP (lv (e := D.str) (x := kind) 9) ( (arMnil (m_upper _)))))))) (lstP (arPcons (lc (e := D.str) (x := ("." : Str))) (arPnil (e := (eL D.str)) (x := [("." : Str)]) rfl)))) (fun pieces => (stWip (stSeqC (Rr := (fun r => r)) (stForCM (E := (fun (v19 : Unit) => ([some ((eL D.str) lines_here), some (D.int wide), some (D.int high), some ((eL D.int) holes), none, some (D.str v11), none, some ((eL D.str) pieces), none, none] : Dl.Env))) (E' := (fun (v19 : Unit) (square : Int) => ([some ((eL D.str) lines_here), some (D.int wide), some (D.int high), some ((eL D.int) holes), none, some (D.str v11), none, some ((eL D.str) pieces), some (D.int square), none] : Dl.Env))) (e2 := (eO (eT2 D.str D.int))) () (itRM (k2PP p_mul (lv (e := D.int) (x := wide) 1) (lv (e := D.int) (x := high) 2))) (by rfl) (by intro _ _; rfl) (fun v19 square => (stIfTM nnRet (orM (andPM (tvP (l2PP (t_in enc_int) (lv (e := D.int) (x := square) 8) (lv (e := (eL D.int)) (x := holes) 3))) (tvM (l2MP (t_ne enc_str) (k2PP p_ixs (lv (e := D.str) (x := v11) 5) (lv (e := D.int) (x := square) 8)) (lc (e := D.str) (x := ("#" : Str)))))) (andPM (tvP (l2PP (t_nin enc_int) (lv (e := D.int) (x := square) 8) (lv (e := (eL D.int)) (x := holes) 3))) (tvM (l2MP (t_nin enc_str) (k2PP p_ixs (lv (e := D.str) (x := v11) 5) (lv (e := D.int) (x := square) 8)) (lv (e := (eL D.str)) (x := pieces) 7))))) (stRetC (E := (fun (v19 : Unit) => ([some ((eL D.str) lines_here), some (D.int wide), some (D.int high), some ((eL D.int) holes), none, some (D.str v11), none, some ((eL D.str) pieces), none, none] : Dl.Env))) (lc (e := (eO (eT2 D.str D.int))) (x := none))) (stSkip (stWip (stNextC (E := (fun (v19 : Unit) => ([some ((eL D.str) lines_here), some (D.int wide), some (D.int high), some ((eL D.int) holes), none, some (D.str v11), none, some ((eL D.str) pieces), none, none] : Dl.Env))) (e := (eO (eT2 D.str D.int))) ())))))) (fun v30 => (stRetM (EvM.some (tupM (arMconsP (lv (e := D.str) (x := v11) 5) (arMconsM (callM (arMconsM (l2MP (t_eq enc_str) (k2PP p_ixl (lv (e := (eL D.str)) (x := lines_here) 0) (negP (lc (e := D.int) (x := (1 : Int))))) (lc (e := D.str) (x := ("second" : Str)))) (fun z36 => (arMtot (e := D.int) (x := (b2i z36)) (b_intB _))))) (fun z37 => (arMtot (e := (eT2 D.str D.int)) (x := (v11, z37)) rfl)))))))))))))))))
  exact def_of rfl h
theorem lf_law_alone (pin : Addr) (e_ : Str) : ∀ r, t_law_alone e_ = some r → den_law_alone pin e_ [(eExc pin) e_] = some (D.bl r) := by
  have h : St (sv_law_alone pin e_) (([(eExc pin) e_] : List D).map some ++ List.replicate (2 - 1) none) (fun r => .rt (D.bl r)) _ := (stSet (lstP (arPcons (callP (arPcons (lv (e := (eExc pin)) (x := e_) 0) (arPcons (lc (e := eD) (x := .cls "BadBoard")) (arPnil (e := D.bl) (x := (subX e_ "BadBoard")) (isE_cls _ _ (by decide)))))) (arPcons (callP (arPcons (lv (e := (eExc pin)) (x := e_) 0) (arPcons (lc (e := eD) (x := .cls "BadGame")) (arPnil (e := D.bl) (x := (subX e_ "BadGame")) (isE_cls _ _ (by decide)))))) (arPcons (callP (arPcons (lv (e := (eExc pin)) (x := e_) 0) (arPcons (lc (e := eD) (x := .cls "BadLine")) (arPnil (e := D.bl) (x := (subX e_ "BadLine")) (isE_cls _ _ (by decide)))))) (arPcons (callP (arPcons (lv (e := (eExc pin)) (x := e_) 0) (arPcons (lc (e := eD) (x := .cls "BadPlace")) (arPnil (e := D.bl) (x := (subX e_ "BadPlace")) (isE_cls _ _ (by decide)))))) (arPnil (e := (eL D.bl)) (x := [(subX e_ "BadBoard"), (subX e_ "BadGame"), (subX e_ "BadLine"), (subX e_ "BadPlace")]) rfl)))))) (fun told_here => (stSetM (k2PP p_catl (lv (e := (eL D.bl)) (x := told_here) 1) (lstP (arPcons (callP (arPcons (lv (e := (eExc pin)) (x := e_) 0) (arPcons (lc (e := eD) (x := .cls "NoMove")) (arPnil (e := D.bl) (x := (subX e_ "NoMove")) (isE_cls _ _ (by decide)))))) (arPcons (callP (arPcons (lv (e := (eExc pin)) (x := e_) 0) (arPcons (lc (e := eD) (x := .cls "TooWide")) (arPnil (e := D.bl) (x := (subX e_ "TooWide")) (isE_cls _ _ (by decide)))))) (arPcons (callP (arPcons (lv (e := (eExc pin)) (x := e_) 0) (arPcons (lc (e := eD) (x := .cls "NoWord")) (arPnil (e := D.bl) (x := (subX e_ "NoWord")) (isE_cls _ _ (by decide)))))) (arPcons (callP (arPcons (lv (e := (eExc pin)) (x := e_) 0) (arPcons (lc (e := eD) (x := .cls "Over")) (arPnil (e := D.bl) (x := (subX e_ "Over")) (isE_cls _ _ (by decide)))))) (arPnil (e := (eL D.bl)) (x := [(subX e_ "NoMove"), (subX e_ "TooWide"), (subX e_ "NoWord"), (subX e_ "Over")]) rfl))))))) (fun told_here1 => (stSetM (k2PP p_catl (lv (e := (eL D.bl)) (x := told_here1) 1) (lstP (arPcons (callP (arPcons (lv (e := (eExc pin)) (x := e_) 0) (arPcons (lc (e := eD) (x := .cls "NothingBack")) (arPnil (e := D.bl) (x := (subX e_ "NothingBack")) (isE_cls _ _ (by decide)))))) (arPnil (e := (eL D.bl)) (x := [(subX e_ "NothingBack")]) rfl)))) (fun told_here2 => (stRet (vandPP (l2PP (t_eq enc_int) (cntP enc_bl (lv (e := (eL D.bl)) (x := told_here2) 1) (lc (e := D.bl) (x := true))) (lc (e := D.int) (x := (1 : Int)))) (callP (arPcons (lv (e := (eExc pin)) (x := e_) 0) (arPcons (lc (e := eD) (x := .ty "ValueError")) (arPnil (e := D.bl) (x := true) (isE_val _ _)))))))))))))
  exact def_of rfl h
theorem lf_law_told (game : TGame) (lines_here : (List Str)) : ∀ r, t_law_told game lines_here = some r → den_law_told [eGame game, (eL D.str) lines_here] = some (eD r) := by
  have h : St sv_law_told (([eGame game, (eL D.str) lines_here] : List D).map some ++ List.replicate (3 - 2) none) (fun r => .rt (eD r)) _ := (stSeqC (Rr := (fun r => r)) (stTry (E := (fun (v1 : Unit) => ([none, none, none] : Dl.Env))) (E' := fun pin exc_c => (fun (v1 : Unit) => ([none, none, none] : Dl.Env))) (stRetFG (E := (fun (v1 : Unit) => ([none, none, none] : Dl.Env))) (xvMap (e2 := eD) (g := (eT2 D.str D.int)) (callX (arXconsP (lv (e := eGame) (x := game) 0) (arXconsP (lv (e := (eL D.str)) (x := lines_here) 1) (arXnil (lf_place_of game lines_here))))) (fun _ => rfl))) (fun pin exc_c => (stRetCM (E := (fun (v1 : Unit) => ([none, none, none] : Dl.Env))) (EvM.dyn (e := (eO D.str)) (ifM (andPM (tvP (callP (arPcons (lv (e := (eExc pin)) (x := exc_c) 2) (arPcons (lc (e := eD) (x := .cls "BadPlace")) (arPnil (e := D.bl) (x := (subX exc_c "BadPlace")) (isE_cls _ _ (by decide))))))) (tvM (callM (arMconsP (lv (e := (eExc pin)) (x := exc_c) 2) (arMnil (lf_law_alone pin exc_c)))))) (EvP.m (lc (e := (eO D.str)) (x := none))) (EvP.m (EvP.some (lc (e := D.str) (x := ("another refusal" : Str))))))))) (fun _ _ _ => rfl)) (fun v5 => stNv))
  exact def_of rfl h
theorem lf_law (script : (List Int)) : ∀ r, t_law script = some r → den_law [eS script] = some (D.bl r) := by
  have h : St sv_law (([eS script] : List D).map some ++ List.replicate (17 - 1) none) (fun r => .rt (D.bl r)) _ := (stAsgM (callM (arMconsP (lv (e := eS) (x := script) 0) (arMnil (lf_law_board script)))) (by intro _; rfl) (fun pair => (stSetM (callM (arMconsM (callM (arMconsP (lv (e := eS) (x := script) 0) (arMconsP (lc (e := D.int) (x := (2 : Int))) (arMnil (lf_law_cell_at script (2 : Int)))))) (fun z1 => (arMnil (lf_law_kinds z1))))) (fun kinds_here => (stSetM (k2PM p_ixl (lstP (arPcons (lc (e := D.str) (x := ("first" : Str))) (arPcons (lc (e := D.str) (x := ("second" : Str))) (arPnil (e := (eL D.str)) (x := [("first" : Str), ("second" : Str)]) rfl)))) (modKM (divKM (callM (arMconsP (lv (e := eS) (x := script) 0) (arMconsP (lc (e := D.int) (x := (3 : Int))) (arMnil (lf_law_cell_at script (3 : Int))))))))) (fun word => (stSetM (l2MP (t_eq enc_int) (modKM (divKM (callM (arMconsP (lv (e := eS) (x := script) 0) (arMconsP (lc (e := D.int) (x := (3 : Int))) (arMnil (lf_law_cell_at script (3 : Int)))))))) (lc (e := D.int) (x := (3 : Int)))) (fun is_word => (stSeq (stIf (tvP (lv (e := D.bl) (x := is_word) 6)) (stPar3 (argsP3 (callP (arPcons (lv (e := D.str) (x := word) 5) (arPnil (e := D.int) (x := (word.length : Int)) (b_lenS _)))) (lstP (arPnil (e := (eL D.int)) (x := []) rfl)) (callP (arPcons (lv (e := D.str) (x := word) 5) (arPnil (e := (eL D.str)) (x := (sgs word)) (b_listS _))))) (fun wide holes kinds_here1 => (stNext (E := (fun (v10 : (Int × (List Int) × (List Str))) => ([some (eS script), some (D.int v10.1), some (D.int pair.2.1), some ((eL D.int) v10.2.1), some ((eL D.str) v10.2.2), some (D.str word), some (D.bl is_word), none, none, none, none, none, none, none, none, none, none] : Dl.Env))) (wide, holes, kinds_here1)))) (stNext (E := (fun (v10 : (Int × (List Int) × (List Str))) => ([some (eS script), some (D.int v10.1), some (D.int pair.2.1), some ((eL D.int) v10.2.1), some ((eL D.str) v10.2.2), some (D.str word), some (D.bl is_word), none, none, none, none, none, none, none, none, none, none] : Dl.Env))) (pair.1, pair.2.2, kinds_here))) (fun v10 => (stSetM (callM (arMconsM (callM (arMconsP (EvP.dyn (e := D.int) (lv (e := D.int) (x := v10.1) 1)) (arMconsP (EvP.dyn (e := D.int) (lv (e := D.int) (x := pair.2.1) 2)) (arMconsP (EvP.dyn (e := (eL D.int)) (callP (arPcons (lv (e := (eL D.int)) (x := v10.2.1) 3) (arPnil (e := (eL D.int)) (x := v10.2.1) (b_listL _))))) (arMnil (lf_Board__init_ (D.int v10.1) (D.int pair.2.1) ((eL D.int) v10.2.1))))))) (fun z11 => (arMconsP (callP (arPcons (lv (e := (eL D.str)) (x := v10.2.2) 4) (arPnil (e := (eL D.str)) (x := v10.2.2) (b_listL _)))) (arMconsP (lstP (arPnil (e := (eL (eT5 D.str D.str D.str D.int D.int))) (x := []) rfl)) (arMconsP (lstP (arPnil (e := (eL (eT2 D.str D.str))) (x := []) rfl)) (arMconsP (lstP (arPnil (e := (eL (eT2 D.str D.str))) (x := []) rfl)) (arMconsP (lc (e := D.str) (x := ("lost" : Str))) (arMnil (lf_Game__init_ z11 v10.2.2 [] [] [] ("lost" : Str))))))))))) (fun game => (stSetM (tupM (arMconsM (callM (arMconsP (lv (e := eS) (x := script) 0) (arMconsP (lv (e := eGame) (x := game) 7) (arMconsP (lc (e := D.int) (x := (5 : Int))) (arMnil (lf_law_row script game (5 : Int))))))) (fun z13 => (arMconsM (modKM (callM (arMconsP (lv (e := eS) (x := script) 0) (arMconsP (lc (e := D.int) (x := (3 : Int))) (arMnil (lf_law_cell_at script (3 : Int))))))) (fun z14 => (arMtot (e := (eT2 D.str D.int)) (x := (z13, z14)) rfl)))))) (fun place => (stSeq (stIf (tvP (lv (e := D.bl) (x := is_word) 6)) (stSetM (tupM (arMconsM (k2PP p_cats (lv (e := D.str) (x := word) 5) (slP s_s (ixT (e2 := D.str) (y := place.1) (lv (e := (eT2 D.str D.int)) (x := place) 8) rfl) (ptP (lv (e := D.int) (x := v10.1) 1)) ptN)) (fun z19 => (arMconsP (ixT (e2 := D.int) (y := place.2) (lv (e := (eT2 D.str D.int)) (x := place) 8) rfl) (arMtot (e := (eT2 D.str D.int)) (x := (z19, place.2)) rfl))))) (fun place1 => (stWip (stNext (E := (fun (v15 : (Str × Int)) => ([some (eS script), some (D.int v10.1), some (D.int pair.2.1), some ((eL D.int) v10.2.1), some ((eL D.str) v10.2.2), none, none, some (eGame game), some ((eT2 D.str D.int) v15), none, none, none, none, none, none, none, none] : Dl.Env))) place1)))) (stWip (stNext (E := (fun (v15 : (Str × Int)) => ([some (eS script), some (D.int v10.1), some (D.int pair.2.1), some ((eL D.int) v10.2.1), some ((eL D.str) v10.2.2), none, none, some (eGame game), some ((eT2 D.str D.int) v15), none, none, none, none, none, none, none, none] : Dl.Env))) place))) (fun v15 => (stSetM (callM (arMconsP (lv (e := (eT2 D.str D.int)) (x := v15) 8) (arMconsP (lv (e := D.int) (x := v10.1) 1) (arMconsP (lv (e := D.int) (x := pair.2.1) 2) (arMnil (lf_law_lines v15 v10.1 pair.2.1)))))) (fun due => (stSetM (callM (arMconsP (lv (e := eGame) (x := game) 7) (arMconsP (lv (e := (eT2 D.str D.int)) (x := v15) 8) (arMnil (lf_shown game v15))))) (fun found => (stIfT nnRet (orPP (notP (tvP (callP (arPcons (lv (e := (eL D.str)) (x := found) 10) (arPcons (lc (e := eD) (x := .ty "list")) (arPnil (e := D.bl) (x := true) (isiK (a := "list") rfl (by decide +kernel)))))))) (orPP (tvP (l2PP (t_ne (enc_l enc_str)) (lv (e := (eL D.str)) (x := found) 10) (lv (e := (eL D.str)) (x := due) 9))) (tvP (l2PP (t_ne (enc_l enc_str)) (lcPP (E' := (fun (one : Str) => ([some (eS script), some (D.int v10.1), some (D.int pair.2.1), some ((eL D.int) v10.2.1), some ((eL D.str) v10.2.2), none, none, some (eGame game), some ((eT2 D.str D.int) v15), some ((eL D.str) due), some ((eL D.str) found), none, none, none, none, none, some (D.str one)] : Dl.Env))) (e2 := D.str) (itL (lv (e := (eL D.str)) (x := found) 10)) (by intro _; rfl) (fun (one : Str) => (notP (tvP (callP (arPcons (lv (e := D.str) (x := one) 16) (arPcons (lc (e := eD) (x := .ty "str")) (arPnil (e := D.bl) (x := true) (isiK (a := "str") rfl (by decide +kernel))))))))) (fun (one : Str) => (lv (e := D.str) (x := one) 16))) (lstP (arPnil (e := eL _) (x := []) rfl)))))) (stRet (lc (e := D.bl) (x := false))) (stSkip (stApp (lc (e := D.str) (x := ("more" : Str))) (fun found1 => (stIfTM nnRet (orM (tvM (l2MP (t_ne (enc_l enc_str)) (callM (arMconsP (lv (e := eGame) (x := game) 7) (arMconsP (lv (e := (eT2 D.str D.int)) (x := v15) 8) (arMnil (lf_shown game v15))))) (lv (e := (eL D.str)) (x := due) 9))) (tvM (l2PM (t_ne (enc_l enc_str)) (lv (e := (eL D.str)) (x := found1) 10) (k2PP p_catl (lv (e := (eL D.str)) (x := due) 9) (lstP (arPcons (lc (e := D.str) (x := ("more" : Str))) (arPnil (e := (eL D.str)) (x := [("more" : Str)]) rfl))))))) (stRet (lc (e := D.bl) (x := false))) (stSkip (stSetM (k2MP p_catl (k2MM p_catl (lstM (arMconsP (lc (e := D.int) (x := (7 : Int))) (arMconsM (callM (arMconsM (callM (arMconsP (lv (e := eS) (x := script) 0) (arMconsP (lc (e := D.int) (x := (4 : Int))) (arMnil (lf_law_cell_at script (4 : Int)))))) (fun z29 => (arMconsP (lc (e := D.int) (x := (2 : Int))) (arMnil (lf_law_mixed z29 (2 : Int))))))) (fun z30 => (arMtot (e := (eL D.int)) (x := [(7 : Int), z30]) rfl))))) (lcM (E' := (fun (cell : Int) => ([some (eS script), some (D.int v10.1), some (D.int pair.2.1), some ((eL D.int) v10.2.1), some ((eL D.str) v10.2.2), none, none, some (eGame game), some ((eT2 D.str D.int) v15), some ((eL D.str) due), some ((eL D.str) found1), none, some (D.int cell), none, none, none, none] : Dl.Env))) (e2 := D.int) (ItP.m (itL (slP s_scr (lv (e := eS) (x := script) 0) (ptP (lc (e := D.int) (x := (12 : Int)))) (ptP (lc (e := D.int) (x := (18 : Int))))))) (by intro _; rfl) (fun (cell : Int) => (TsP.m yesP)) (fun (cell : Int) => (callM (arMconsP (lv (e := D.int) (x := cell) 12) (arMconsP (lc (e := D.int) (x := (1 : Int))) (arMnil (lf_law_mixed cell (1 : Int))))))))) (lstP (arPcons (lc (e := D.int) (x := (7 : Int))) (arPnil (e := (eL D.int)) (x := [(7 : Int)]) rfl)))) (fun cells => (stWip (stSeqC (Rr := (fun r => r)) (stForC (E := (fun (v38 : Unit) => ([none, some (D.int v10.1), some (D.int pair.2.1), some ((eL D.int) v10.2.1), some ((eL D.str) v10.2.2), none, none, some (eGame game), none, some ((eL D.str) due), none, some ((eL D.int) cells), none, none, none, none, none] : Dl.Env))) (E' := (fun (v38 : Unit) (cell1 : Int) => ([none, some (D.int v10.1), some (D.int pair.2.1), some ((eL D.int) v10.2.1), some ((eL D.str) v10.2.2), none, none, some (eGame game), none, some ((eL D.str) due), none, some ((eL D.int) cells), some (D.int cell1), none, none, none, none] : Dl.Env))) (e2 := D.bl) () (itL (lv (e := (eL D.int)) (x := cells) 11)) (by rfl) (by intro _ _; rfl) (fun v38 cell1 => (stSetM (callM (arMconsP (lv (e := (eL D.str)) (x := due) 9) (arMconsP (lv (e := D.int) (x := cell1) 12) (arMconsP (lv (e := (eL D.str)) (x := v10.2.2) 4) (arMnil (lf_law_changed due cell1 v10.2.2)))))) (fun lines_here => (stSetI (callP (arPcons (lv (e := (eL D.str)) (x := lines_here) 13) (arPnil (e := (eL D.str)) (x := lines_here) (b_listL _)))) (stSetM (callM (arMconsP (lv (e := eGame) (x := game) 7) (arMconsP (lv (e := (eL D.str)) (x := lines_here) 14) (arMnil (lf_law_told game lines_here))))) (fun told_here => (stIfTM nnRet (orM (tvM (k2PM d_ne (lv (e := eD) (x := told_here) 15) (EvM.dyn (e := (eO (eT2 D.str D.int))) (callM (arMconsP (lv (e := (eL D.str)) (x := lines_here) 13) (arMconsP (lv (e := D.int) (x := v10.1) 1) (arMconsP (lv (e := D.int) (x := pair.2.1) 2) (arMconsP (lv (e := (eL D.int)) (x := v10.2.1) 3) (arMconsP (lv (e := (eL D.str)) (x := v10.2.2) 4) (arMnil (lf_law_read lines_here v10.1 pair.2.1 v10.2.1 v10.2.2))))))))))) (TsP.m (tvP (l2PP (t_ne (enc_l enc_str)) (lv (e := (eL D.str)) (x := lines_here) 14) (lv (e := (eL D.str)) (x := lines_here) 13))))) (stRetC (E := (fun (v38 : Unit) => ([none, some (D.int v10.1), some (D.int pair.2.1), some ((eL D.int) v10.2.1), some ((eL D.str) v10.2.2), none, none, some (eGame game), none, some ((eL D.str) due), none, some ((eL D.int) cells), none, none, none, none, none] : Dl.Env))) (lc (e := D.bl) (x := false))) (stSkip (stClr (e := D.str) (stIfTM nnRet (andPM (tvP (isntD (lv (e := eD) (x := told_here) 15))) (orM (notM (tvM (callM (arMconsP (lv (e := eD) (x := told_here) 15) (arMconsP (lc (e := eD) (x := .ty "tuple")) (arMnil (b_isiD _ _))))))) (notM (tvM (callM (arMconsM (k2PP (d_op opIx) (lv (e := eD) (x := told_here) 15) (EvP.dyn (e := D.int) (lc (e := D.int) (x := (1 : Int))))) (fun z45 => (arMnil (lf_law_whole z45))))))))) (stRetC (E := (fun (v38 : Unit) => ([none, some (D.int v10.1), some (D.int pair.2.1), some ((eL D.int) v10.2.1), some ((eL D.str) v10.2.2), none, none, some (eGame game), none, some ((eL D.str) due), none, some ((eL D.int) cells), none, none, none, none, none] : Dl.Env))) (lc (e := D.bl) (x := false))) (stSkip (stWip (stNextC (E := (fun (v38 : Unit) => ([none, some (D.int v10.1), some (D.int pair.2.1), some ((eL D.int) v10.2.1), some ((eL D.str) v10.2.2), none, none, some (eGame game), none, some ((eL D.str) due), none, some ((eL D.int) cells), none, none, none, none, none] : Dl.Env))) (e := D.bl) ())))))))))))))) (fun v51 => (stRet (lc (e := D.bl) (x := true))))))))))))))))))))))))))))))))))
  exact def_of rfl h
theorem law_of_t (ns : List Int) (h : t_law ns = some true) : den_law [.scr ns] = some (.bl true) := lf_law ns true h
end Pr
namespace Pr
open PySem L2 Dl
/-! ### boards -/
theorem is_whole_int (i : Int) : t_is_whole (.int i) = some true := by simp [t_is_whole]
theorem is_among_int (i a b : Int) : t_is_among (.int i) a b = some (decide (a ≤ i) && decide (i ≤ b)) := by
  unfold t_is_among
  rw [is_whole_int]
  by_cases h : a ≤ i <;> simp [h]
theorem cLL_D : ∀ ds : List D, cLL cD ds = some ds
  | [] => rfl
  | d :: ds => by
    show (cD d).bind (fun a => (cLL cD ds).bind fun as => some (a :: as)) = _
    rw [cLL_D ds]; rfl
structure GoodB (w h : Int) (hs : List Int) : Prop where
  w1 : 1 ≤ w
  w8 : w ≤ 8
  h1 : 1 ≤ h
  h8 : h ≤ 8
  rg : ∀ x ∈ hs, 0 ≤ x ∧ x < w * h
  nd : hs.Nodup
  ln : (hs.length : Int) < w * h
theorem area {w h : Int} (w1 : 1 ≤ w) (w8 : w ≤ 8) (h1 : 1 ≤ h) (h8 : h ≤ 8) : 1 ≤ w * h ∧ w * h ≤ 64 := by
  have a := Int.mul_le_mul w8 h8 (by omega) (by omega)
  have b := Int.mul_le_mul w1 h1 (by omega) (by omega)
  omega
theorem GoodB.area {w h : Int} {hs : List Int} (g : GoodB w h hs) : 1 ≤ w * h ∧ w * h ≤ 64 := Pr.area g.w1 g.w8 g.h1 g.h8
theorem GoodB.mul {w h : Int} {hs : List Int} (g : GoodB w h hs) : mulT w h = some (w * h) := mulT_l h (by have := g.w1; have := g.w8; omega)
theorem GoodB.sort {w h : Int} {hs : List Int} (g : GoodB w h hs) : GoodB w h (sortI hs) :=
  ⟨g.w1, g.w8, g.h1, g.h8, fun x hx => g.rg x ((sortI_perm hs).mem_iff.mp hx), (sortI_perm hs).nodup_iff.mpr g.nd, by rw [(sortI_perm hs).length_eq]; exact g.ln⟩
theorem are_holes_ok {hs : List Int} {n : Int} (rg : ∀ x ∈ hs, 0 ≤ x ∧ x < n) (nd' : hs.Nodup) (ln : (hs.length : Int) < n) (h4 : hs.length ≤ 4000) : t_are_holes (hs.map D.int) n = some true := by
  unfold t_are_holes
  have e : forT (fun (v1 : Unit) (thing : D) => (((t_is_among thing (0 : Int) (n - (1 : Int))).bind fun z2 => some (!z2)).bind fun z3 => if z3 = true then (some (.rt false)) else (some (.nx ())) : Option (Ctl Unit Bool))) (hs.map D.int) () = some (.nx ()) := forT_unit fun d hd => by
    obtain ⟨x, hx, rfl⟩ := List.mem_map.mp hd
    obtain ⟨a, b⟩ := rg x hx
    have b' : x ≤ n - 1 := by omega
    simp [is_among_int, a, b']
  have s : lenSetD ((eL eD) (hs.map D.int)) = some (hs.length : Int) := by
    rw [eL_map, lenSetD_int]
    unfold lenSetT
    rw [if_pos h4, (nd_nodup hs).mp nd']
  rw [e, bindC_nx, s]
  simp [ln]
theorem Board_ok {w h : Int} {hs : List Int} (g : GoodB w h hs) : t_Board__init_ (.int w) (.int h) (eL D.int hs) = some ⟨w, h, sortI hs⟩ := by
  obtain ⟨a1, a2⟩ := g.area
  have h4 : hs.length ≤ 4000 := by have := g.ln; omega
  have s1 : isSlf (eL D.int hs) = false := rfl
  have s2 : isSlf (.int w) = false := rfl
  have s3 : isSlf (.int h) = false := rfl
  have e : cL cD (eL D.int hs) = some (hs.map D.int) := cLL_D _
  unfold t_Board__init_
  rw [if_pos (by simp [s1, s2, s3])]
  simp [is_among_int, g.w1, g.w8, g.h1, g.h8, e, g.mul, are_holes_ok g.rg g.nd g.ln h4]
end Pr
namespace Pr
open PySem L2 Dl
theorem has_ok {b : TBoard} (g : GoodB b.wide b.high b.holes) (s : Int) : t_Board_has b (.int s) = some (decide (0 ≤ s) && decide (s < b.wide * b.high) && !decide (s ∈ b.holes)) := by
  unfold t_Board_has
  have e : ninB (.int s) (eL D.int b.holes) = some (!decide (s ∈ b.holes)) := by
    unfold ninB; rw [inB_l enc_int (by decide)]; rfl
  rw [g.mul, Option.bind_some, Option.bind_some, is_among_int, Option.bind_some, e]
  have c : decide (s ≤ b.wide * b.high - 1) = decide (s < b.wide * b.high) := by
    by_cases q : s < b.wide * b.high
    · rw [decide_eq_true q, decide_eq_true (by omega)]
    · rw [decide_eq_false q, decide_eq_false (by omega)]
  rw [c]
  by_cases c1 : 0 ≤ s <;> by_cases c2 : s < b.wide * b.high <;> simp [c1, c2]
def emptyL (w h : Int) (hs : List Int) : List Nat := (rng (w * h)).map fun s => if s ∈ hs then 35 else 46
theorem emptyL_len (w h : Int) (hs : List Int) : (emptyL w h hs).length = (w * h).toNat := by unfold emptyL; rw [List.length_map, rng_len]
end Pr
namespace Pr
open PySem L2 Dl
theorem sgs_hole : ("#" : Str) = sg1 35 := by decide +kernel
theorem sgs_dot : ("." : Str) = sg1 46 := by decide +kernel
/-! ### signs -/
def okc (c : Nat) : Prop := c = 46 ∨ c = 35 ∨ isLo c ∨ isUp c
def sideC (c : Nat) : Option Int := if c = 46 ∨ c = 35 then none else some (if isLo c then 1 else 0)
theorem dot_eq (c : Nat) : decide (sg1 c = ("." : Str)) = decide (c = 46) := by rw [sgs_dot]; simp [sg1_inj]
theorem hole_eq (c : Nat) : decide (sg1 c = ("#" : Str)) = decide (c = 35) := by rw [sgs_hole]; simp [sg1_inj]
theorem specials : (".#" : Str).cps.toList = [46, 35] := by decide +kernel
end Pr
namespace Pr
open PySem L2 Dl
/-! ### the script's board, kinds -/
theorem cell_at_ok (s : List Int) {k : Int} (h : 0 ≤ k) : ∃ a, t_law_cell_at s k = some a := by
  unfold t_law_cell_at
  by_cases c : k < s.length
  · obtain ⟨x, e, _⟩ := atI_ok h c
    exact ⟨x, by simp [c, e]⟩
  · exact ⟨0, by simp [c]⟩
theorem mixed_ok (c k : Int) : ∃ m, t_law_mixed c k = some m ∧ 0 ≤ m := ⟨_, rfl, Int.emod_nonneg _ (by decide)⟩
theorem board_ok (s : List Int) : ∃ w h hs, t_law_board s = some (w, h, hs) ∧ GoodB w h hs := by
  obtain ⟨c, e1⟩ := cell_at_ok s (k := 0) (by decide)
  obtain ⟨c2, e2⟩ := cell_at_ok s (k := 1) (by decide)
  obtain ⟨w, h, ew, w1, w8, h1, h8⟩ : ∃ w h, (if (decide (((c / 16) % 8) = (5 : Int))) = true then (lett ((1 : Int) + ((c / 128) % 8)) fun wide1 => (lett ((1 : Int) + ((c / 1024) % 8)) fun high1 => (some (wide1, high1)))) else (some ((1 : Int) + (c % 4), (1 : Int) + ((c / 4) % 4)))) = some (w, h) ∧ 1 ≤ w ∧ w ≤ 8 ∧ 1 ≤ h ∧ h ≤ 8 := by
    by_cases q : (c / 16) % 8 = 5
    · exact ⟨1 + c / 128 % 8, 1 + c / 1024 % 8, by simp [q, lett_def], by omega, by omega, by omega, by omega⟩
    · exact ⟨1 + c % 4, 1 + c / 4 % 4, by simp [q], by omega, by omega, by omega, by omega⟩
  obtain ⟨a1, a2⟩ := area w1 w8 h1 h8
  have em : mulT w h = some (w * h) := mulT_l h (by omega)
  obtain ⟨n, en, _, hn⟩ := atI_ok (xs := [(0 : Int), 0, 1, 2]) (i := c2 % 4) (Int.emod_nonneg _ (by decide)) (by have := Int.emod_lt_of_pos c2 (show (0 : Int) < 4 by decide); simpa using this)
  have hn2 : 0 ≤ n ∧ n ≤ 2 := by
    have := List.mem_of_getElem? hn
    simp at this; omega
  obtain ⟨hs, e3, g⟩ := foldT_keep (fun hs => GoodB w h hs) (xs := rng n) (v := []) (B := fun v4 k => (((t_law_mixed (c2 / 4) k).bind fun z7 => (mulT w h).bind fun z8 => (modT z7 z8)).bind fun hole => (((if (!decide (hole ∈ v4)) = true then ((mulT w h).bind fun z11 => some (decide (((v4.length : Int) + (1 : Int)) < z11))) else some false).bind fun z14 => if z14 = true then ((appT v4 hole).bind fun holes => (some holes)) else (some v4)).bind fun v13 => (some v13)))) ⟨w1, w8, h1, h8, by simp, List.nodup_nil, by rw [List.length_nil]; show (0 : Int) < _; omega⟩ (by
    intro k v hk g
    obtain ⟨m, e4, hm⟩ := mixed_ok (c2 / 4) k
    have hm2 := Int.emod_lt_of_pos m (show 0 < w * h by omega)
    have hm1 := Int.emod_nonneg m (show w * h ≠ 0 by omega)
    have len := g.ln
    rw [e4, Option.bind_some, em, Option.bind_some, modT_ok (by omega), Option.bind_some]
    by_cases q1 : m % (w * h) ∈ v
    · exact ⟨v, by simp [q1], g⟩
    · by_cases q2 : (v.length : Int) + 1 < w * h
      · refine ⟨v ++ [m % (w * h)], by simp [q1, q2, appT_ok (show v.length ≤ 1000000 by omega)], w1, w8, h1, h8, fun x hx => ?_, ?_, by rw [List.length_append, List.length_singleton]; omega⟩
        · rcases List.mem_append.mp hx with hx | hx
          · exact g.rg x hx
          · rw [List.mem_singleton.mp hx]; exact ⟨hm1, hm2⟩
        · refine List.nodup_append.mpr ⟨g.nd, by simp, fun a ha b hb => ?_⟩
          rw [List.mem_singleton.mp hb]
          intro z; exact q1 (z ▸ ha)
      · exact ⟨v, by simp [q1, q2], g⟩)
  refine ⟨w, h, hs, ?_, g⟩
  unfold t_law_board
  rw [e1, Option.bind_some, lett_def, lett_def, ew, Option.bind_some, e2, Option.bind_some]
  dsimp only
  rw [en, Option.bind_some, rngT_ok (by omega) (by omega), Option.bind_some, e3]; rfl
theorem kinds_ok (c : Int) : ∃ ks, t_law_kinds c = some ks ∧ ks ≠ [] ∧ (∀ k ∈ ks, ∃ l, k = sg1 l ∧ isLo l) ∧ ks.Nodup ∧ ks.length ≤ 6 := by
  obtain ⟨st, e1, mst, _⟩ := atI_ok (xs := [(1 : Int), 3, 5, 7, 9, 11]) (i := c / 208 % 6) (Int.emod_nonneg _ (by decide)) (by have := Int.emod_lt_of_pos (c / 208) (show (0 : Int) < 6 by decide); simpa using this)
  obtain ⟨n, e2, m, hn⟩ := atI_ok (xs := [(1 : Int), 2, 2, 3, 3, 1, 6, 4]) (i := c % 8) (Int.emod_nonneg _ (by decide)) (by have := Int.emod_lt_of_pos c (show (0 : Int) < 8 by decide); simpa using this)
  have hn2 : 1 ≤ n ∧ n ≤ 6 := by simp at m; omega
  have e3 := lcT_map (xs := rng n) (G := fun k => ((((mulT st k).bind fun z7 => some ((c / 8) + z7)).bind fun z9 => some (z9 % 26)).bind fun z10 => (atS ("abcdefghijklmnopqrstuvwxyz" : Str) z10))) (g := fun k => sg1 (97 + (c / 8 + st * k) % 26).toNat) (by
    intro k hk
    have := mem_rng.mp hk
    obtain ⟨x, e, hx, ex⟩ := abc_at (c / 8 + st * k)
    have : (97 + (c / 8 + st * k) % 26).toNat = x := by omega
    rw [this, mulT_r st (by omega)]; simpa using e)
  refine ⟨_, by unfold t_law_kinds; rw [e1, Option.bind_some, e2, Option.bind_some, rngT_ok (by omega) (by omega), Option.bind_some, e3], fun z => ?_, fun k hk => ?_, ?_, by rw [List.length_map, rng_len]; omega⟩
  · have := congrArg List.length z
    rw [List.length_map, rng_len] at this
    have l0 : ([] : List Str).length = 0 := rfl
    omega
  · obtain ⟨i, _, rfl⟩ := List.mem_map.mp hk
    refine ⟨_, rfl, ?_⟩
    have h1 := Int.emod_nonneg (c / 8 + st * i) (show (26 : Int) ≠ 0 by decide)
    have h2 := Int.emod_lt_of_pos (c / 8 + st * i) (show (0 : Int) < 26 by decide)
    unfold isLo; omega
  · unfold List.Nodup
    rw [List.pairwise_map]
    refine List.Pairwise.imp_of_mem (fun {a b} ha hb hab z => hab ?_) (rng_nodup n)
    have z := sg1_inj.mp z
    have a1 := mem_rng.mp ha
    have b1 := mem_rng.mp hb
    have h1 := Int.emod_nonneg (c / 8 + st * a) (show (26 : Int) ≠ 0 by decide)
    have h2 := Int.emod_nonneg (c / 8 + st * b) (show (26 : Int) ≠ 0 by decide)
    have z2 : (c / 8 + st * a) % 26 = (c / 8 + st * b) % 26 := by omega
    generalize c / 8 = x at z2
    clear h1 h2 z
    simp only [List.mem_cons, List.not_mem_nil, or_false] at mst
    rcases mst with rfl | rfl | rfl | rfl | rfl | rfl <;> omega
theorem free_ne {w h : Int} {hs : List Int} (g : GoodB w h hs) : ((rng (w * h)).filter fun s => !decide (s ∈ hs)) ≠ [] := by
  intro z
  have sub : ∀ x ∈ rng (w * h), x ∈ hs := fun x hx => by
    by_cases c : x ∈ hs
    · exact c
    · have : x ∈ (rng (w * h)).filter fun s => !decide (s ∈ hs) := List.mem_filter.mpr ⟨hx, by simp [c]⟩
      rw [z] at this; simp at this
  have := length_sub (rng_nodup _) sub
  rw [rng_len] at this
  have := g.ln
  omega
end Pr
namespace Pr
open PySem L2 Dl
/-! ### rules, turns, ends, games -/
abbrev Rule := Str × Str × Str × Int × Int
@[simp] theorem nq1 : ¬ (("leap" : Str) = "slide") := by decide +kernel
@[simp] theorem nq2 : ¬ (("leap" : Str) = "jump") := by decide +kernel
@[simp] theorem nq3 : ¬ (("slide" : Str) = "leap") := by decide +kernel
@[simp] theorem nq4 : ¬ (("slide" : Str) = "jump") := by decide +kernel
@[simp] theorem nq5 : ¬ (("jump" : Str) = "leap") := by decide +kernel
@[simp] theorem nq6 : ¬ (("jump" : Str) = "slide") := by decide +kernel
@[simp] theorem nq7 : ¬ (("go" : Str) = "hit") := by decide +kernel
@[simp] theorem nq8 : ¬ (("go" : Str) = "any") := by decide +kernel
@[simp] theorem nq9 : ¬ (("hit" : Str) = "go") := by decide +kernel
@[simp] theorem nq10 : ¬ (("hit" : Str) = "any") := by decide +kernel
@[simp] theorem nq11 : ¬ (("any" : Str) = "go") := by decide +kernel
@[simp] theorem nq12 : ¬ (("any" : Str) = "hit") := by decide +kernel
@[simp] theorem nq13 : ¬ (("without" : Str) = "home") := by decide +kernel
@[simp] theorem nq14 : ¬ (("home" : Str) = "without") := by decide +kernel
structure GoodR (ks : List Str) (r : Rule) : Prop where
  k : r.1 ∈ ks
  s : r.2.1 = "leap" ∨ r.2.1 = "slide" ∨ r.2.1 = "jump"
  a : r.2.2.1 = "go" ∨ r.2.2.1 = "hit" ∨ r.2.2.1 = "any"
  j : r.2.1 = "jump" → r.2.2.1 = "hit"
  x : -3 ≤ r.2.2.2.1 ∧ r.2.2.2.1 ≤ 3
  y : -3 ≤ r.2.2.2.2 ∧ r.2.2.2.2 ≤ 3
  n : ¬ r.2.1 = "leap" → (-1 ≤ r.2.2.2.1 ∧ r.2.2.2.1 ≤ 1) ∧ -1 ≤ r.2.2.2.2 ∧ r.2.2.2.2 ≤ 1
  z : ¬ (r.2.2.2.1 = 0 ∧ r.2.2.2.2 = 0)
structure GoodT (ks : List Str) (ts : List (Str × Str)) : Prop where
  l : ts.length ≤ 6
  m : ∀ t ∈ ts, t.1 ∈ ks ∧ t.2 ∈ ks ∧ t.1 ≠ t.2 ∧ t.2 ∉ ts.map (·.1)
  n : (ts.map (·.1)).Nodup
structure GoodE (ks : List Str) (es : List (Str × Str)) : Prop where
  l : es.length ≤ 6
  m : ∀ e ∈ es, (e.1 = "without" ∨ e.1 = "home") ∧ e.2 ∈ ks
structure GoodK (ks : List Str) : Prop where
  n : ks ≠ []
  q : ∀ k ∈ ks, ∃ l, k = sg1 l ∧ isLo l
  d : ks.Nodup
  l : ks.length ≤ 6
structure GoodG (g : TGame) : Prop where
  b : GoodB g.board.wide g.board.high g.board.holes
  k : GoodK g.kinds
  r : ∀ r ∈ g.rules, GoodR g.kinds r
  rl : g.rules.length ≤ 24
  t : GoodT g.kinds g.turns
  e : GoodE g.kinds g.ends
  s : g.stuck = "lost" ∨ g.stuck = "even" ∨ g.stuck = "won"
theorem is_rule_ok {ks : List Str} {r : Rule} (g : GoodR ks r) : t_is_rule r ks = some true := by
  unfold t_is_rule
  have l5 : lenD ((eT5 D.str D.str D.str D.int D.int) r) = some (5 : Int) := rfl
  obtain ⟨gk, gs, ga, gj, gx, gy, gn, gz⟩ := g
  obtain ⟨k, so, am, ac, up⟩ := r
  simp only at gk gs ga gj gx gy gn gz
  rw [l5]
  have c1 : (decide (k ∈ ks)) = true := decide_eq_true gk
  have c2 : (decide (so ∈ [("leap" : Str), "slide", "jump"])) = true := decide_eq_true (by simpa using gs)
  have c3 : (decide (am ∈ [("go" : Str), "hit", "any"])) = true := decide_eq_true (by simpa using ga)
  have c4 : ((decide (so = ("jump" : Str))) && (!decide (am = ("hit" : Str)))) = false := by
    by_cases q : so = "jump"
    · simp [q, gj q]
    · simp [q]
  have c5 : ((!decide (ac = (0 : Int))) || (!decide (up = (0 : Int)))) = true := by
    by_cases q : ac = 0
    · have : ¬ up = 0 := fun z => gz ⟨q, z⟩
      simp [this]
    · simp [q]
  obtain ⟨far, ef, f1, f2⟩ : ∃ far, t_far_of so = some far ∧ (-far ≤ ac ∧ ac ≤ far) ∧ -far ≤ up ∧ up ≤ far := by
    unfold t_far_of
    by_cases q : so = "leap"
    · exact ⟨3, by simp [q], by omega, by omega⟩
    · exact ⟨1, by simp [q], by have := gn q; omega, by have := gn q; omega⟩
  have d1 := decide_eq_true f1.1
  have d2 := decide_eq_true f1.2
  have d3 := decide_eq_true f2.1
  have d4 := decide_eq_true f2.2
  simp only [c1, c2, c3, c4, c5, ef, is_among_int, d1, d2, d3, d4, Option.bind_some]
  simp
theorem are_rules_ok {ks : List Str} {rs : List Rule} (h : ∀ r ∈ rs, GoodR ks r) (l : rs.length ≤ 24) : t_are_rules rs ks = some true := by
  unfold t_are_rules
  rw [if_neg (by simp; omega), forT_unit fun r hr => by rw [is_rule_ok (h r hr)]; rfl, bindC_nx]
theorem are_pairs_ok {ts : List (Str × Str)} (l : ts.length ≤ 6) : t_are_pairs ts = some true := by
  unfold t_are_pairs
  rw [if_neg (by simp; omega), forT_unit fun r hr => rfl, bindC_nx]
theorem is_turns_ok {ks : List Str} {ts : List (Str × Str)} (g : GoodT ks ts) : t_is_turns ts ks = some true := by
  unfold t_is_turns
  have e : ∀ (xs pre : List (Str × Str)), pre ++ xs = ts → forT (ρ := Bool) (fun v2 pair => (if ((!decide (pair.1 ∈ ks)) || ((!decide (pair.2 ∈ ks)) || ((decide (pair.1 = pair.2)) || (decide (pair.1 ∈ v2))))) = true then (some (.rt false)) else ((appT v2 pair.1).bind fun firsts => (some (.nx firsts))))) xs (pre.map (·.1)) = some (.nx (ts.map (·.1))) := by
    intro xs
    induction xs with
    | nil => intro pre h; rw [← h, List.append_nil]; rfl
    | cons x xs ih =>
      intro pre h
      obtain ⟨m1, m2, m3, _⟩ := g.m x (h ▸ List.mem_append_right _ List.mem_cons_self)
      have m4 : x.1 ∉ pre.map (·.1) := by
        have nd := g.n
        rw [← h, List.map_append, List.map_cons] at nd
        intro z
        exact (List.nodup_append.mp nd).2.2 _ z _ List.mem_cons_self rfl
      have l : pre.length ≤ 6 := by
        have := congrArg List.length h
        rw [List.length_append] at this
        have := g.l; omega
      rw [forT_cons, if_neg (by simp only [m1, m2, m3, m4]; simp), appT_ok (by rw [List.length_map]; omega), Option.bind_some, Option.bind_some]
      have := ih (pre ++ [x]) (by rw [List.append_assoc]; exact h)
      rw [List.map_append] at this
      exact this
  rw [are_pairs_ok g.l, Option.bind_some, Option.bind_some, if_neg (by simp)]
  have e0 := e ts [] rfl
  rw [List.map_nil] at e0
  rw [e0, bindC_nx, forT_unit fun t ht => by rw [if_neg (by simp only [(g.m t ht).2.2.2]; simp)], bindC_nx]
theorem is_ends_ok {ks : List Str} {es : List (Str × Str)} (g : GoodE ks es) : t_is_ends es ks = some true := by
  unfold t_is_ends
  rw [are_pairs_ok g.l, Option.bind_some, Option.bind_some, if_neg (by simp), forT_unit fun t ht => by
    obtain ⟨a, b⟩ := g.m t ht
    rw [if_neg (by simp [b, a])], bindC_nx]
theorem opIn_abc {l : Nat} (h : isLo l) : opInB (.str (sg1 l)) (D.str ("abcdefghijklmnopqrstuvwxyz" : Str)) = some true := by
  have : strIn (sg1 l) "abcdefghijklmnopqrstuvwxyz" = true := by rw [strIn_sg]; exact decide_eq_true (mem_abc.mpr h)
  have e : opInB (.str (sg1 l)) (D.str ("abcdefghijklmnopqrstuvwxyz" : Str)) = some (strIn (sg1 l) "abcdefghijklmnopqrstuvwxyz") := rfl
  rw [e, this]
theorem is_letter_ok {l : Nat} (h : isLo l) : t_is_letter (.str (sg1 l)) = some true := by
  unfold t_is_letter
  have e : lenD (.str (sg1 l)) = some 1 := rfl
  simp [e, opIn_abc h]
theorem are_kinds_ok {ks : List Str} (g : GoodK ks) : t_are_kinds ks = some true := by
  unfold t_are_kinds
  have l0 : 0 < ks.length := List.length_pos_iff.mpr g.n
  have l6 := g.l
  have s : lenSetT ks = some (ks.length : Int) := by
    unfold lenSetT
    rw [if_pos (by omega), (nd_nodup ks).mp g.d]
  rw [if_neg (by simp; omega), forT_unit fun k hk => by
    obtain ⟨l, rfl, hl⟩ := g.q k hk
    rw [is_letter_ok hl]; rfl, bindC_nx, s]
  simp
theorem Game_ok {b : TBoard} {ks : List Str} {rs : List Rule} {ts es : List (Str × Str)} {st : Str} (g : GoodG ⟨b, ks, rs, ts, es, st⟩) : t_Game__init_ b ks rs ts es st = some ⟨b, ks, rs, ts, es, st⟩ := by
  unfold t_Game__init_
  have hs : decide (st ∈ [("lost" : Str), "even", "won"]) = true := decide_eq_true (by simpa using g.s)
  rw [if_pos (by rfl), are_kinds_ok g.k, are_rules_ok g.r g.rl, is_turns_ok g.t, is_ends_ok g.e, hs]
  simp
end Pr
namespace Pr
open PySem L2 Dl
/-! ### rows -/
def okAt (g : TGame) (i : Nat) (c : Nat) : Prop := if (i : Int) ∈ g.board.holes then c = 35 else (c = 46 ∨ (isLo c ∧ sg1 c ∈ g.kinds) ∨ (isUp c ∧ sg1 (c + 32) ∈ g.kinds))
structure GoodCs (g : TGame) (cs : List Nat) : Prop where
  l : (cs.length : Int) = g.board.wide * g.board.high
  a : ∀ i c, cs[i]? = some c → okAt g i c
abbrev GoodRow (g : TGame) (row : Str) : Prop := GoodCs g row.cps.toList
theorem okAt.okc {g : TGame} {i c : Nat} (h : okAt g i c) : okc c := by
  unfold okAt at h
  split at h
  · exact .inr (.inl h)
  · rcases h with h | h | h
    · exact .inl h
    · exact .inr (.inr (.inl h.1))
    · exact .inr (.inr (.inr h.1))
theorem GoodCs.set {g : TGame} {cs : List Nat} (h : GoodCs g cs) {i c : Nat} (hc : okAt g i c) : GoodCs g (cs.set i c) := by
  refine ⟨by rw [List.length_set]; exact h.l, fun j d q => ?_⟩
  rw [List.getElem?_set] at q
  split at q
  · rename_i e
    split at q
    · cases q; exact e ▸ hc
    · cases q
  · exact h.a j d q
theorem okAt_kind {g : TGame} (gg : GoodG g) {i : Nat} (hf : ¬ (i : Int) ∈ g.board.holes) {l : Nat} (hk : sg1 l ∈ g.kinds) (hl : isLo l) : okAt g i l ∧ okAt g i (l - 32) := by
  unfold okAt
  rw [if_neg hf, if_neg hf]
  refine ⟨.inr (.inl ⟨hl, hk⟩), .inr (.inr ⟨?_, ?_⟩)⟩
  · unfold isLo at hl; unfold isUp; omega
  · have : l - 32 + 32 = l := by unfold isLo at hl; omega
    rw [this]; exact hk
theorem putLT_ok {α : Type} {xs : List α} {k : Int} {x : α} (h0 : 0 ≤ k) (h1 : k < xs.length) : putLT xs k x = some (xs.set k.toNat x) := by
  unfold putLT ixN
  rw [if_pos h0, if_pos h1]; rfl
theorem kind_at {g : TGame} (gg : GoodG g) (x : Int) : ∃ l, ((modT x (g.kinds.length : Int)).bind fun z => (atI g.kinds z)) = some (sg1 l) ∧ sg1 l ∈ g.kinds ∧ isLo l := by
  have kp : 0 < g.kinds.length := List.length_pos_iff.mpr gg.k.n
  obtain ⟨k, e, m, _⟩ := atI_ok (xs := g.kinds) (i := x % g.kinds.length) (Int.emod_nonneg _ (by omega)) (Int.emod_lt_of_pos _ (by omega))
  obtain ⟨l, rfl, hl⟩ := gg.k.q k m
  exact ⟨l, by rw [modT_ok (by omega), Option.bind_some, e], m, hl⟩
theorem law_row_ok {g : TGame} (gg : GoodG g) (s : List Int) {start : Int} (hs : 0 ≤ start) : ∃ row, t_law_row s g start = some row ∧ GoodRow g row := by
  obtain ⟨a1, a2⟩ := gg.b.area
  unfold t_law_row
  rw [gg.b.mul, Option.bind_some, rngT_ok (by omega) (by omega), Option.bind_some,
    lcT_eq (p := fun s => !decide (s ∈ g.board.holes)) (g := fun s => s) (fun _ _ => rfl) (fun _ _ _ => rfl), Option.bind_some, Option.bind_some]
  have d0 : atS (".#" : Str) 0 = some (sg1 46) := by decide +kernel
  have d1 : atS (".#" : Str) 1 = some (sg1 35) := by decide +kernel
  rw [lcT_map (g := fun s => sg1 (if s ∈ g.board.holes then 35 else 46)) (fun s _ => by by_cases c : s ∈ g.board.holes <;> simp [c, b2i, d0, d1]), Option.bind_some]
  have hfree := free_ne gg.b
  have memF : ∀ x ∈ ((rng (g.board.wide * g.board.high)).filter fun s => !decide (s ∈ g.board.holes)).map (fun s => s), 0 ≤ x ∧ x < g.board.wide * g.board.high ∧ ¬ x ∈ g.board.holes := by
    intro x hx
    rw [List.map_id'] at hx
    have := List.mem_filter.mp hx
    exact ⟨(mem_rng.mp this.1).1, (mem_rng.mp this.1).2, by simpa using this.2⟩
  have hF : (((rng (g.board.wide * g.board.high)).filter fun s => !decide (s ∈ g.board.holes)).map (fun s => s)) ≠ [] := by rw [List.map_id']; exact hfree
  generalize (((rng (g.board.wide * g.board.high)).filter fun s => !decide (s ∈ g.board.holes)).map (fun s => s)) = free at memF hF
  have fl : 0 < free.length := List.length_pos_iff.mpr hF
  obtain ⟨c, e1⟩ := cell_at_ok s hs
  rw [e1, Option.bind_some]
  obtain ⟨cells, e2, l2, _⟩ := lcT_each (Q := fun _ : Int => True) (xs := rng 6) (G := fun k => ((t_law_cell_at s ((start + (1 : Int)) + k)).bind fun z15 => (t_law_mixed z15 k))) (fun k hk => by
    obtain ⟨a, e⟩ := cell_at_ok s (k := start + 1 + k) (by have := mem_rng.mp hk; omega)
    obtain ⟨m, e', _⟩ := mixed_ok a k
    exact ⟨m, by rw [e, Option.bind_some, e'], trivial⟩)
  rw [e2, Option.bind_some]
  have l2 : cells.length = 6 := l2
  obtain ⟨sp, e3, _, m3⟩ := lcT_each (Q := fun x : Int => x ∈ free) (xs := cutD cells none (some ((1 : Int) + (c % 6)))) (G := fun more => ((modT more (free.length : Int)).bind fun z20 => (atI free z20))) (fun k hk => by
    obtain ⟨a, e, m, _⟩ := atI_ok (xs := free) (i := k % free.length) (Int.emod_nonneg _ (by omega)) (Int.emod_lt_of_pos _ (by omega))
    exact ⟨a, by rw [modT_ok (by omega), Option.bind_some, e], m⟩)
  rw [e3, Option.bind_some]
  obtain ⟨sp1, e4, m4⟩ : ∃ sp1, (if (decide (((c / 6) % 8) = (1 : Int))) = true then (lett (cutD free none (some (12 : Int))) fun spots1 => (some spots1)) else (some sp)) = some sp1 ∧ ∀ x ∈ sp1, x ∈ free := by
    by_cases q : (c / 6) % 8 = 1
    · refine ⟨cutD free none (some 12), by simp [q, lett_def], fun x hx => ?_⟩
      rw [cutD_nat_to _ (by decide)] at hx
      exact List.mem_of_mem_take hx
    · exact ⟨sp, by simp [q], m3⟩
  rw [e4, Option.bind_some]
  obtain ⟨sp2, e5, m5⟩ : ∃ sp2, (if (decide (((c / 6) % 9) = (2 : Int))) = true then (some []) else (some sp1)) = some sp2 ∧ ∀ x ∈ sp2, x ∈ free := by
    by_cases q : (c / 6) % 9 = 2
    · exact ⟨[], by simp [q], by simp⟩
    · exact ⟨sp1, by simp [q], m4⟩
  rw [e5, Option.bind_some]
  obtain ⟨v, e6, cs, rfl, gc⟩ := foldT_keep (B := fun v26 item => (((atI cells (item.1 % 6)).bind fun z29 => some (z29 + (4099 * (item.1 / 6)))).bind fun more1 => (((modT (more1 / 64) (g.kinds.length : Int)).bind fun z35 => (atI g.kinds z35)).bind fun kind => ((((uppT kind).bind fun z37 => (some [z37, kind])).bind fun z38 => (atI z38 ((more1 / 512) % 2))).bind fun z40 => (some item.2).bind fun z41 => (putLT v26 z41 z40).bind fun signs1 => (some signs1)))))
    (fun v : List Str => ∃ cs, v = cs.map sg1 ∧ GoodCs g cs) (xs := enumT sp2) (v := (rng (g.board.wide * g.board.high)).map fun s => sg1 (if s ∈ g.board.holes then 35 else 46)) ⟨(rng (g.board.wide * g.board.high)).map fun s => if s ∈ g.board.holes then 35 else 46, by rw [List.map_map]; rfl, by rw [List.length_map, rng_len]; omega, fun i c q => by
      rw [List.getElem?_map] at q
      by_cases hi : (i : Int) < g.board.wide * g.board.high
      · rw [rng_get hi] at q
        cases q
        unfold okAt
        by_cases hh : (i : Int) ∈ g.board.holes
        · rw [if_pos hh]; exact if_pos hh
        · rw [if_neg hh]; exact .inl (if_neg hh)
      · rw [List.getElem?_eq_none (by rw [rng_len]; omega)] at q; cases q⟩ (by
    intro item v hi ⟨cs, ev, gc⟩
    subst ev
    obtain ⟨i, e7, hi2⟩ := mem_enumT hi
    obtain ⟨h0, h1, hh⟩ := memF _ (m5 _ (List.mem_of_getElem? hi2))
    obtain ⟨cl, e8, _, _⟩ := atI_ok (xs := cells) (i := item.1 % 6) (Int.emod_nonneg _ (by decide)) (by rw [l2]; exact Int.emod_lt_of_pos _ (by decide))
    rw [e8, Option.bind_some, Option.bind_some]
    generalize cl + 4099 * (item.1 / 6) = more
    obtain ⟨l, e9, mk, hl⟩ := kind_at gg (more / 64)
    rw [e9, Option.bind_some, upp_lo hl, Option.bind_some, Option.bind_some]
    obtain ⟨x, e10, mx, _⟩ := atI_ok (xs := [sg1 (l - 32), sg1 l]) (i := more / 512 % 2) (Int.emod_nonneg _ (by decide)) (Int.emod_lt_of_pos _ (by decide))
    have hin : (item.2.toNat : Int) = item.2 := by omega
    obtain ⟨k1, k2⟩ := okAt_kind gg (i := item.2.toNat) (by rw [hin]; exact hh) mk hl
    obtain ⟨d, ed, okd⟩ : ∃ d, x = sg1 d ∧ okAt g item.2.toNat d := by
      simp only [List.mem_cons, List.not_mem_nil, or_false] at mx
      rcases mx with rfl | rfl
      · exact ⟨_, rfl, k2⟩
      · exact ⟨_, rfl, k1⟩
    subst ed
    refine ⟨(cs.set item.2.toNat d).map sg1, ?_, _, rfl, gc.set okd⟩
    rw [e10, Option.bind_some, Option.bind_some, putLT_ok h0 (by rw [List.length_map, gc.l]; exact h1), Option.bind_some, List.map_set])
  rw [e6, Option.bind_some]
  obtain ⟨z, e7, hz⟩ := joinT_sg (cs := cs) (by have := gc.l; omega)
  exact ⟨z, e7, by show GoodCs g z.cps.toList; rw [hz]; exact gc⟩
end Pr
namespace Pr
open PySem L2 Dl
/-! ### signs that may stand in an odd row -/
def oddC (c : Nat) : Prop := c = 32 ∨ c = 48 ∨ c = 49
def chC (c : Nat) : Prop := okc c ∨ oddC c
theorem low_odd {c : Nat} (h : oddC c) : lowT (sg1 c) = some (sg1 c) := by
  rcases h with rfl | rfl | rfl <;> decide +kernel
/-- may the sign stand there -/
def mayB (g : TGame) (i : Int) (c : Nat) : Bool := if i ∈ g.board.holes then decide (c = 35) else (decide (c = 46) || decide (isLo c ∧ sg1 c ∈ g.kinds) || decide (isUp c ∧ sg1 (c + 32) ∈ g.kinds))
instance (c : Nat) : Decidable (isLo c) := by unfold isLo; exact inferInstance
instance (c : Nat) : Decidable (isUp c) := by unfold isUp; exact inferInstance
theorem kind_in {g : TGame} (gk : GoodK g.kinds) {c : Nat} (hc : chC c) (nd : ¬ c = 46) : ∃ o, t_kind_of (sg1 c) = some o ∧ memB o (g.kinds.map fun x => some ((fun x => x) x)) = (decide (isLo c ∧ sg1 c ∈ g.kinds) || decide (isUp c ∧ sg1 (c + 32) ∈ g.kinds)) := by
  have inS : ∀ x : Str, memB (some x) (g.kinds.map fun x => some ((fun x => x) x)) = decide (x ∈ g.kinds) := by
    intro x
    unfold memB
    refine decide_eq_decide.mpr ⟨fun h => ?_, fun h => List.mem_map.mpr ⟨x, h, rfl⟩⟩
    obtain ⟨y, hy, e⟩ := List.mem_map.mp h
    cases e; exact hy
  have noL : ∀ x, ¬ isLo x → ¬ sg1 x ∈ g.kinds := fun x hx h => by
    obtain ⟨l, e, hl⟩ := gk.q _ h
    exact hx (sg1_inj.mp e ▸ hl)
  by_cases c35 : c = 35
  · subst c35
    refine ⟨none, by unfold t_kind_of; rw [dot_eq, hole_eq]; rfl, ?_⟩
    have : memB (none : Option Str) (g.kinds.map fun x => some ((fun x => x) x)) = false := by
      cases q : memB (none : Option Str) (g.kinds.map fun x => some ((fun x => x) x)) with
      | false => rfl
      | true =>
        obtain ⟨y, _, e⟩ := List.mem_map.mp (memB_iff.mp q)
        cases e
    rw [this]
    have n1 : ¬ isLo 35 := by decide
    have n2 : ¬ isUp 35 := by decide
    simp [n1, n2]
  · have gen : ∀ x, lowT (sg1 c) = some (sg1 x) → t_kind_of (sg1 c) = some (some (sg1 x)) := by
      intro x e
      unfold t_kind_of
      rw [dot_eq, hole_eq, e]
      simp [nd, c35]
    rcases hc with (h | h | h | h) | h
    · exact absurd h nd
    · exact absurd h c35
    · refine ⟨_, gen _ (low_lo h), ?_⟩
      have n2 : ¬ isUp c := by unfold isLo at h; unfold isUp; omega
      rw [inS]
      simp [h, n2]
    · refine ⟨_, gen _ (low_up h), ?_⟩
      have n1 : ¬ isLo c := by unfold isUp at h; unfold isLo; omega
      rw [inS]
      simp [h, n1]
    · refine ⟨_, gen _ (low_odd h), ?_⟩
      have n1 : ¬ isLo c := by unfold oddC at h; unfold isLo; omega
      have n2 : ¬ isUp c := by unfold oddC at h; unfold isUp; omega
      rw [inS]
      simp [n1, n2, noL c n1]
theorem sign_may {g : TGame} (gg : GoodG g) {i : Int} (h0 : 0 ≤ i) (hi : i < g.board.wide * g.board.high) {c : Nat} (hc : chC c) : t_is_sign g i (sg1 c) = some (mayB g i c) := by
  unfold t_is_sign mayB
  rw [has_ok gg.b, decide_eq_true h0, decide_eq_true hi, Option.bind_some, Option.bind_some, dot_eq, hole_eq]
  by_cases hh : i ∈ g.board.holes
  · rw [if_pos (by simp [hh]), if_pos hh]
  · rw [if_neg (by simp [hh]), if_neg hh]
    by_cases c1 : c = 46
    · rw [if_pos (by simp [c1])]; simp [c1]
    · rw [if_neg (by simp [c1])]
      obtain ⟨o, e, m⟩ := kind_in gg.k hc c1
      rw [e, Option.bind_some, m]
      simp [c1]
/-- the pieces by the law -/
def upK (k : Str) : Str := sg1 (k.cps.toList.headD 0 - 32)
theorem pieces_ok {ks : List Str} (g : GoodK ks) : ((lcT (fun kind => (some true)) (fun kind => (uppT kind)) ks).bind fun z30 => (catL ks z30)) = some (ks ++ ks.map upK) := by
  have l := g.l
  rw [lcT_map (g := upK) (fun k hk => by
    obtain ⟨l, rfl, hl⟩ := g.q k hk
    exact upp_lo hl), Option.bind_some, catL_ok (by rw [List.length_map]; omega)]
theorem in_pieces {g : TGame} (gk : GoodK g.kinds) {c : Nat} : decide (sg1 c ∈ g.kinds ++ g.kinds.map upK ++ [("." : Str)]) = (decide (c = 46) || decide (isLo c ∧ sg1 c ∈ g.kinds) || decide (isUp c ∧ sg1 (c + 32) ∈ g.kinds)) := by
  have e : (sg1 c ∈ g.kinds ++ g.kinds.map upK ++ [("." : Str)]) ↔ (c = 46 ∨ (isLo c ∧ sg1 c ∈ g.kinds)) ∨ (isUp c ∧ sg1 (c + 32) ∈ g.kinds) := by
    rw [List.mem_append, List.mem_append, List.mem_singleton, sgs_dot, sg1_inj]
    rw [or_comm]
    constructor
    · rintro (h | h | h)
      · exact .inl (.inl h)
      · obtain ⟨l, e, hl⟩ := gk.q _ h
        exact .inl (.inr ⟨sg1_inj.mp e ▸ hl, h⟩)
      · obtain ⟨k, hk, e⟩ := List.mem_map.mp h
        obtain ⟨l, rfl, hl⟩ := gk.q k hk
        have e : l - 32 = c := sg1_inj.mp e
        subst e
        have : l - 32 + 32 = l := by unfold isLo at hl; omega
        exact .inr ⟨by unfold isLo at hl; unfold isUp; omega, by rw [this]; exact hk⟩
    · rintro ((h | h) | h)
      · exact .inl h
      · exact .inr (.inl h.2)
      · refine .inr (.inr (List.mem_map.mpr ⟨_, h.2, ?_⟩))
        show sg1 (c + 32 - 32) = sg1 c
        rw [Nat.add_sub_cancel]
  by_cases z : (c = 46 ∨ (isLo c ∧ sg1 c ∈ g.kinds)) ∨ (isUp c ∧ sg1 (c + 32) ∈ g.kinds)
  · rw [decide_eq_true (e.mpr z)]
    rcases z with (z | z) | z
    · simp [z]
    · simp [decide_eq_true z]
    · simp [decide_eq_true z]
  · rw [decide_eq_false fun q => z (e.mp q), decide_eq_false fun q => z (.inl (.inl q)), decide_eq_false fun q => z (.inl (.inr q)), decide_eq_false fun q => z (.inr q)]; rfl
def chr (row : Str) (s : Int) : Nat := (row.cps.toList[s.toNat]?).getD 0
theorem enum_rng {row : Str} {n : Int} (h : (row.length : Int) = n) : enumT (sgs row) = (rng n).map fun i => (i, sg1 (chr row i)) := by
  apply List.ext_getElem?
  intro i
  rw [enumT_get, sgs_get, List.getElem?_map]
  rw [str_length] at h
  by_cases hi : (i : Int) < n
  · rw [rng_get hi]
    show _ = some ((i : Int), sg1 ((row.cps.toList[((i : Int)).toNat]?).getD 0))
    have : i < row.cps.toList.length := by omega
    rw [Int.toNat_natCast, List.getElem?_eq_getElem this]; rfl
  · have q1 : row.cps.toList[i]? = none := List.getElem?_eq_none (by omega)
    have q2 : (rng n)[i]? = none := List.getElem?_eq_none (by rw [rng_len]; omega)
    rw [q1, q2]; rfl
theorem chr_get {row : Str} {i : Int} (h0 : 0 ≤ i) (h1 : i < row.length) : atI row.cps.toList i = some (chr row i) := by
  rw [str_length] at h1
  obtain ⟨c, e, _, q⟩ := atI_ok (xs := row.cps.toList) h0 h1
  unfold chr
  rw [q]; exact e
theorem ix_row {row : Str} {i : Int} (h0 : 0 ≤ i) (h1 : i < row.length) : opIx (.str row) (.int i) = some (.str (sg1 (chr row i))) := by
  show (atI row.cps.toList i).map (fun c => D.str ⟨#[c]⟩) = _
  rw [chr_get h0 h1]; rfl
theorem chr_mem {row : Str} {i : Int} (h0 : 0 ≤ i) (h1 : i < row.length) : chr row i ∈ row.cps.toList := by
  rw [str_length] at h1
  obtain ⟨c, e, m, q⟩ := atI_ok (xs := row.cps.toList) h0 h1
  unfold chr
  rw [q]; exact m
theorem neB_str (a b : Str) : neB (.str a) (.str b) = some (!decide (a = b)) := by
  have h : opNe (.str a) (.str b) = some (.bl (!decide (a = b))) := t_ne enc_str (by decide) a b
  unfold opNe at h
  unfold neB
  split at h
  · rename_i q
    rw [if_pos q]
    have := Option.some.inj h
    rw [D.bl.inj this]
  · cases h
theorem ninB_str (a : Str) (xs : List Str) : ninB (.str a) (eL D.str xs) = some (!decide (a ∈ xs)) := by
  unfold ninB; rw [inB_l enc_str (by decide)]; rfl
/-- the answer where it is a pair of a text and a number -/
def ans (g : TGame) (row : Str) (s : Int) : Bool := decide ((row.length : Int) = g.board.wide * g.board.high) && decide (0 ≤ s ∧ s ≤ 1) && (rng (g.board.wide * g.board.high)).all fun i => mayB g i (chr row i)
theorem is_place_pair {g : TGame} (gg : GoodG g) {row : Str} (hr : ∀ c ∈ row.cps.toList, chC c) (s : Int) : t_is_place g (.tup [.str row, .int s]) = some (ans g row s) := by
  obtain ⟨a1, a2⟩ := gg.b.area
  have e1 : lenD (.tup [.str row, .int s]) = some 2 := rfl
  have e2 : opIx (.tup [.str row, .int s]) (.int 0) = some (.str row) := rfl
  have e3 : (cT2 cS cD) (.tup [.str row, .int s]) = some (row, .int s) := rfl
  unfold t_is_place ans
  rw [isiD_tup_tuple, Option.bind_some, Option.bind_some, if_neg (by simp), e1, Option.bind_some, Option.bind_some, if_neg (by simp), e2, Option.bind_some, isiD_str_str, Option.bind_some, Option.bind_some, if_neg (by simp), e3, Option.bind_some, gg.b.mul, Option.bind_some, Option.bind_some]
  by_cases cl : (row.length : Int) = g.board.wide * g.board.high
  · rw [if_neg (by simp [cl])]
    dsimp only
    rw [is_among_int, Option.bind_some, Option.bind_some]
    by_cases cs : 0 ≤ s ∧ s ≤ 1
    · rw [if_neg (by simp [cs.1, cs.2]), enum_rng cl, forT_any (bad := fun p : Int × Str => !mayB g p.1 (p.2.cps.toList.headD 0)) (r := false) (fun x hx => by
        obtain ⟨i, hi, rfl⟩ := List.mem_map.mp hx
        obtain ⟨h0, h1⟩ := mem_rng.mp hi
        rw [sign_may gg h0 h1 (hr _ (chr_mem h0 (by rw [cl]; exact h1)))]
        show ((some (mayB g i (chr row i))).bind _).bind _ = some (if (!mayB g i (chr row i)) = true then _ else _)
        cases mayB g i (chr row i) <;> rfl), List.any_map]
      have e : ((rng (g.board.wide * g.board.high)).any ((fun p : Int × Str => !mayB g p.1 (p.2.cps.toList.headD 0)) ∘ fun i => (i, sg1 (chr row i)))) = !((rng (g.board.wide * g.board.high)).all fun i => mayB g i (chr row i)) := by
        rw [List.not_all_eq_any_not]; rfl
      rw [e]
      cases (rng (g.board.wide * g.board.high)).all fun i => mayB g i (chr row i) <;> simp [cl, cs]
    · have cs2 : (!(decide (0 ≤ s) && decide (s ≤ 1))) = true := by
        by_cases a : 0 ≤ s
        · have : ¬ s ≤ 1 := fun z => cs ⟨a, z⟩
          simp [this]
        · simp [a]
      rw [if_pos cs2]
      simp [cs]
  · rw [if_pos (by simp [cl]), Option.bind_some, if_pos rfl]
    simp [cl]
end Pr
namespace Pr
open PySem L2 Dl
/-! ### shown -/
def lineA (row : Str) (w b : Int) : Str := cutS' row (some (b * w)) (some (b * w + w))
def sideW (side : Int) : Str := if side = 0 then "first" else "second"
def dueS (row : Str) (w h side : Int) : List Str := (rng h).map (fun k => lineA row w (h - 1 - k)) ++ [sideW side]
theorem rng_rev (h : Int) : (rng h).reverse = (rng h).map fun k => h - 1 - k := by
  apply List.ext_getElem?
  intro i
  by_cases hi : i < (rng h).length
  · have hl := rng_len h
    rw [List.getElem?_reverse hi, List.getElem?_map, rng_get (n := h) (i := (rng h).length - 1 - i) (by omega), rng_get (n := h) (i := i) (by omega)]
    show some (((rng h).length - 1 - i : Nat) : Int) = some (h - 1 - (i : Int))
    congr 1
    omega
  · rw [List.getElem?_eq_none (by rw [List.length_reverse]; omega), List.getElem?_eq_none (by rw [List.length_map]; omega)]
theorem side_at {side : Int} (hs : side = 0 ∨ side = 1) : atI [("first" : Str), ("second" : Str)] side = some (sideW side) := by
  rcases hs with rfl | rfl <;> rfl
theorem shown_ok {g : TGame} (gg : GoodG g) (row : Str) {side : Int} (hs : side = 0 ∨ side = 1) : t_shown g (row, side) = some (dueS row g.board.wide g.board.high side) := by
  have h1 := gg.b.h1
  have h8 := gg.b.h8
  have w1 := gg.b.w1
  have w8 := gg.b.w8
  have hl := rng_len g.board.high
  unfold t_shown
  rw [lett_def, Option.bind_some]
  have er : rngRT g.board.high = some (rng g.board.high).reverse := by unfold rngRT; rw [rngT_ok (by omega) (by omega)]; rfl
  rw [er, Option.bind_some]
  dsimp only
  rw [foldT_app (G := fun at_ => (some row).bind fun z14 => ((mulT at_ g.board.wide).bind fun z8 => some (some z8)).bind fun z15 => (((mulT at_ g.board.wide).bind fun z11 => some (z11 + g.board.wide)).bind fun z13 => some (some z13)).bind fun z16 => some (cutS' z14 z15 z16)) (g := lineA row g.board.wide) (fun x hx => by
    rw [mulT_r x (b := g.board.wide) (by omega)]; rfl) (by rw [List.length_reverse]; show 0 + _ ≤ _; omega), Option.bind_some, side_at hs, Option.bind_some, Option.bind_some, List.nil_append, catL_ok (by rw [List.length_map, List.length_reverse, List.length_singleton]; omega), rng_rev, List.map_map]
  rfl
theorem law_lines_ok {w h : Int} (h1 : 1 ≤ h) (h8 : h ≤ 8) (w1 : 1 ≤ w) (w8 : w ≤ 8) (row : Str) {side : Int} (hs : side = 0 ∨ side = 1) : t_law_lines (row, side) w h = some (dueS row w h side) := by
  have hl := rng_len h
  unfold t_law_lines
  rw [rngT_ok (by omega) (by omega), Option.bind_some]
  have e : foldT (fun v1 k => ((mulT ((h - (1 : Int)) - k) w).bind fun begin => ((appT v1 (cutS' (row, side).1 (some begin) (some (begin + w)))).bind fun lines_here => (some lines_here)))) (rng h) [] = some ((rng h).map fun k => lineA row w (h - 1 - k)) := by
    have := foldT_app (G := fun k => (mulT ((h - (1 : Int)) - k) w).bind fun begin => some (cutS' row (some begin) (some (begin + w)))) (g := fun k => lineA row w (h - 1 - k)) (xs := rng h) (v0 := []) (fun x hx => by
      rw [mulT_r _ (b := w) (by omega)]; rfl) (by show 0 + _ ≤ _; omega)
    rw [List.nil_append] at this
    rw [← this]
    congr 1
    funext v k
    cases mulT ((h - (1 : Int)) - k) w <;> rfl
  rw [e, Option.bind_some]
  dsimp only
  rw [side_at hs, Option.bind_some, Option.bind_some, catL_ok (by rw [List.length_map, List.length_singleton]; omega)]
  rfl
/-! ### changed lines -/
structure GoodTx (t : Str) : Prop where
  l : t.length ≤ 40
  c : ∀ c ∈ t.cps.toList, chC c
structure GoodLs (ls : List Str) : Prop where
  l : ls.length ≤ 20
  g : ∀ t ∈ ls, GoodTx t
theorem cut_mem {row : Str} {lo hi : Option Int} {c : Nat} (h : c ∈ (cutS' row lo hi).cps.toList) : c ∈ row.cps.toList := by
  rw [cps_cut] at h
  unfold cutD at h
  exact List.mem_of_mem_drop (List.mem_of_mem_take h)
theorem cut_len (row : Str) (lo hi : Option Int) : (cutS' row lo hi).length ≤ row.length := by
  rw [str_length, str_length, cps_cut]; exact cutD_len _ lo hi
theorem cat_len (a b : Str) : (a ++ b).length = a.length + b.length := by
  rw [str_length, str_length, str_length, cps_append, List.length_append]
theorem cat_mem {a b : Str} {P : Nat → Prop} (ha : ∀ c ∈ a.cps.toList, P c) (hb : ∀ c ∈ b.cps.toList, P c) : ∀ c ∈ (a ++ b).cps.toList, P c := fun c hc => by
  rw [cps_append] at hc
  rcases List.mem_append.mp hc with h | h
  · exact ha c h
  · exact hb c h
instance (c : Nat) : Decidable (oddC c) := by unfold oddC; exact inferInstance
instance (c : Nat) : Decidable (okc c) := by unfold okc; exact inferInstance
instance (c : Nat) : Decidable (chC c) := by unfold chC; exact inferInstance
theorem GoodTx.const {t : Str} (h : (decide (t.length ≤ 40) && t.cps.toList.all fun c => decide (chC c)) = true) : GoodTx t := by
  rw [Bool.and_eq_true, decide_eq_true_eq, List.all_eq_true] at h
  exact ⟨h.1, fun c hc => of_decide_eq_true (h.2 c hc)⟩
theorem pick2 {α : Type} {xs : List α} {n : Int} (hn : (xs.length : Int) = n) (h0 : 0 < n) (i : Int) : ∃ x, atI xs (i % n) = some x ∧ x ∈ xs := by
  obtain ⟨x, e, m, _⟩ := atI_ok (xs := xs) (i := i % n) (Int.emod_nonneg _ (by omega)) (by have := Int.emod_lt_of_pos i h0; omega)
  exact ⟨x, e, m⟩
theorem cutD_mem {α : Type} {xs : List α} {lo hi : Option Int} {x : α} (h : x ∈ cutD xs lo hi) : x ∈ xs := by
  unfold cutD at h
  exact List.mem_of_mem_drop (List.mem_of_mem_take h)
theorem sgs_join {ks : List Str} (gk : GoodK ks) : ∃ cs : List Nat, ks = cs.map sg1 ∧ (∀ c ∈ cs, isLo c) ∧ cs.length = ks.length := by
  have q := gk.q
  clear gk
  induction ks with
  | nil => exact ⟨[], rfl, by simp, rfl⟩
  | cons k ks ih =>
    obtain ⟨cs, e, h, l⟩ := ih fun k hk => q k (List.mem_cons_of_mem _ hk)
    obtain ⟨c, ek, hc⟩ := q k List.mem_cons_self
    refine ⟨c :: cs, by rw [ek, e]; rfl, fun d hd => ?_, by simp [l]⟩
    rcases List.mem_cons.mp hd with rfl | hd
    · exact hc
    · exact h d hd
theorem upper_lo {z : Str} (h : ∀ c ∈ z.cps.toList, isLo c) (l : z.length ≤ 100) : ∃ y, uppT z = some y ∧ (∀ c ∈ y.cps.toList, isUp c) ∧ y.length = z.length := by
  have u := PyProof.Rows.upper_ascii (x := z) (fun c hc => by have := h c (by simpa using hc); unfold isLo at this; omega)
  have cu : (Txt.upper z).cps.toList = z.cps.toList.map PyProof.Rows.up1 := by rw [u]; simp
  have lu : (Txt.upper z).length = z.length := by rw [str_length, cu, List.length_map, ← str_length]
  refine ⟨Txt.upper z, ?_, fun c hc => ?_, lu⟩
  · unfold uppT
    rw [if_pos ⟨by omega, Nat.le_trans (show (Txt.upper z).length ≤ 1000 by omega) (by decide)⟩]
  · rw [cu] at hc
    obtain ⟨d, hd, rfl⟩ := List.mem_map.mp hc
    have := h d hd
    unfold isLo at this
    unfold PyProof.Rows.up1 isUp
    split <;> rename_i q
    · omega
    · exact absurd ⟨by omega, by omega⟩ q
theorem line_changed_ok {ls : List Str} (gl : GoodLs ls) (ln : 0 < ls.length) (l8 : ls.length ≤ 9) (s20 : ∀ t ∈ ls, t.length ≤ 19) {ks : List Str} (gk : GoodK ks) (cell : Int) : ∃ ls', t_law_line_changed ls cell ks = some ls' ∧ GoodLs ls' := by
  unfold t_law_line_changed
  rw [modT_ok (by omega), Option.bind_some]
  generalize hat : cell / 8 % (ls.length : Int) = at_
  obtain ⟨x, ex, mx⟩ := pick2 (xs := ls) rfl (by omega) (cell / 8)
  rw [hat] at ex
  have gx := gl.g x mx
  have lx := s20 x mx
  have e1 : lenD (D.str x) = some (x.length : Int) := rfl
  rw [ex, Option.bind_some, Option.bind_some, e1, Option.bind_some, Option.bind_some, modT_ok (by omega), Option.bind_some]
  generalize cell / 64 % ((x.length : Int) + 1) = pl
  obtain ⟨cs, ek, hcs, lcs⟩ := sgs_join gk
  obtain ⟨z, ez, hz⟩ := joinT_sg (cs := cs) (by have := gk.l; omega)
  rw [← ek] at ez
  have lz : z.length ≤ 6 := by rw [str_length, hz, lcs]; exact gk.l
  obtain ⟨y, ey, hy, ly⟩ := upper_lo (z := z) (by rw [hz]; exact hcs) (by omega)
  have lt : (".#" : Str).length = 2 := by decide +kernel
  have lq : ("Qz 1first" : Str).length = 9 := by decide +kernel
  rw [ez, Option.bind_some, catS_ok (by omega), Option.bind_some, Option.bind_some, ey, Option.bind_some, catS_ok (by rw [cat_len]; omega), Option.bind_some, catS_ok (by rw [cat_len, cat_len]; omega), Option.bind_some]
  have cc : ∀ c ∈ (".#" ++ z ++ y ++ "Qz 1first" : Str).cps.toList, chC c := by
    refine cat_mem (cat_mem (cat_mem ?_ ?_) ?_) ?_
    · exact (GoodTx.const (t := ".#") (by decide +kernel)).c
    · exact fun c hc => .inl (.inr (.inr (.inl (hcs c (hz ▸ hc)))))
    · exact fun c hc => .inl (.inr (.inr (.inr (hy c hc))))
    · exact (GoodTx.const (t := "Qz 1first") (by decide +kernel)).c
  have lc : 0 < (".#" ++ z ++ y ++ "Qz 1first" : Str).length := by rw [cat_len, cat_len, cat_len]; omega
  generalize (".#" ++ z ++ y ++ "Qz 1first" : Str) = sg at cc lc
  rw [modT_ok (by omega), Option.bind_some]
  obtain ⟨c, ec, mc, _⟩ := atS_ok (s := sg) (i := cell / 1024 % (sg.length : Int)) (Int.emod_nonneg _ (by omega)) (Int.emod_lt_of_pos _ (by omega))
  rw [ec, Option.bind_some]
  have hc := cc c mc
  have sl : ∀ lo hi : Option Int, opSl (D.str x) lo hi = some (D.str (cutS' x lo hi)) := fun lo hi => rfl
  have cS' : ∀ s : Str, cS (D.str s) = some s := fun s => rfl
  have cl := cut_len x
  have ad : ∀ a b : Str, a.length ≤ 40 → b.length ≤ 40 → opAdd (D.str a) (D.str b) = some (D.str (a ++ b)) := fun a b ha hb => by
    show (if a.length + b.length ≤ sizeLine then some (D.str (a ++ b)) else none) = _
    rw [if_pos (Nat.le_trans (show a.length + b.length ≤ 80 by omega) (by decide))]
  have l1 := cl none (some pl)
  have l2 := cl (some pl) none
  have l3 := cl (some (pl + 1)) none
  simp only [sl, cS', Option.bind_some]
  rw [catS_ok (by rw [sg1_len]; omega), Option.bind_some, catS_ok (by rw [cat_len, sg1_len]; omega), Option.bind_some, Option.bind_some, ad _ _ (by omega) (by omega), Option.bind_some, Option.bind_some, catS_ok (by rw [cat_len, sg1_len]; omega), Option.bind_some, Option.bind_some, Option.bind_some, Option.bind_some]
  have one : ∀ lo hi lo' hi' : Option Int, (cutS' x lo hi).length + (cutS' x lo' hi').length ≤ 40 → GoodTx (cutS' x lo hi ++ cutS' x lo' hi') := fun lo hi lo' hi' h => ⟨by rw [cat_len]; exact h, cat_mem (fun c hc => gx.c c (cut_mem hc)) fun c hc => gx.c c (cut_mem hc)⟩
  have two : ∀ lo hi lo' hi' : Option Int, (cutS' x lo hi).length + (cutS' x lo' hi').length ≤ 39 → GoodTx (cutS' x lo hi ++ sg1 c ++ cutS' x lo' hi') := fun lo hi lo' hi' h => ⟨by rw [cat_len, cat_len, sg1_len]; omega, cat_mem (cat_mem (fun c hc => gx.c c (cut_mem hc)) fun d hd => by rw [sg1_cps, List.mem_singleton] at hd; rw [hd]; exact hc) fun c hc => gx.c c (cut_mem hc)⟩
  have ix : ∃ t, (opIx ((eL eD) [D.str (cutS' x none (some pl) ++ sg1 c ++ cutS' x (some pl) none), D.str (cutS' x none (some pl) ++ cutS' x (some (pl + 1)) none), D.str (cutS' x none (some pl) ++ sg1 c ++ cutS' x (some (pl + 1)) none)]) (D.int (cell / 512 % 3))) = some (D.str t) ∧ GoodTx t := by
    have hA : cell / 512 % 3 = 0 ∨ cell / 512 % 3 = 1 ∨ cell / 512 % 3 = 2 := by omega
    rcases hA with e | e | e <;> rw [e]
    · exact ⟨_, rfl, two _ _ _ _ (by omega)⟩
    · exact ⟨_, rfl, one _ _ _ _ (by omega)⟩
    · exact ⟨_, rfl, two _ _ _ _ (by omega)⟩
  obtain ⟨t, et, gt⟩ := ix
  have d1 := cutD_len ls none (some at_)
  have d2 := cutD_len ls (some (at_ + 1)) none
  rw [et, Option.bind_some, cS', Option.bind_some, Option.bind_some, catL_ok (by rw [List.length_singleton]; omega), Option.bind_some, catL_ok (by rw [List.length_append, List.length_singleton]; omega)]
  refine ⟨_, rfl, ⟨by rw [List.length_append, List.length_append, List.length_singleton]; omega, fun u hu => ?_⟩⟩
  rcases List.mem_append.mp hu with hu | hu
  · rcases List.mem_append.mp hu with hu | hu
    · exact gl.g u (cutD_mem hu)
    · rw [List.mem_singleton.mp hu]; exact gt
  · exact gl.g u (cutD_mem hu)
theorem changed_ok {ls : List Str} (gl : GoodLs ls) (ln : 0 < ls.length) (l8 : ls.length ≤ 9) (s20 : ∀ t ∈ ls, t.length ≤ 19) {ks : List Str} (gk : GoodK ks) (cell : Int) : ∃ ls', t_law_changed ls cell ks = some ls' ∧ GoodLs ls' := by
  unfold t_law_changed
  rw [lett_def, modT_ok (by omega), Option.bind_some]
  generalize cell / 8 % (ls.length : Int) = at_
  have cl := fun lo hi => cutD_len ls lo hi
  have cg : ∀ lo hi, ∀ t ∈ cutD ls lo hi, GoodTx t := fun lo hi t ht => gl.g t (cutD_mem ht)
  have two : ∀ lo hi lo' hi' : Option Int, ∃ ls', catL (cutD ls lo hi) (cutD ls lo' hi') = some ls' ∧ GoodLs ls' := fun lo hi lo' hi' => by
    have a := cl lo hi
    have b := cl lo' hi'
    refine ⟨_, catL_ok (by omega), ⟨by rw [List.length_append]; omega, fun t ht => ?_⟩⟩
    rcases List.mem_append.mp ht with ht | ht
    · exact cg _ _ t ht
    · exact cg _ _ t ht
  split
  · exact two _ _ _ _
  split
  · have a := cl none (some at_)
    have b := cl (some at_) none
    have c : (cutD ls (some at_) (some (at_ + 1))).length ≤ 1 ∨ (cutD ls (some at_) (some (at_ + 1))).length ≤ 9 := .inr (Nat.le_trans (cl _ _) l8)
    have c : (cutD ls (some at_) (some (at_ + 1))).length ≤ 9 := Nat.le_trans (cl _ _) l8
    have ab : (cutD ls none (some at_)).length + (cutD ls (some at_) none).length ≤ 11 ∨ True := .inr trivial
    rw [catL_ok (by omega), Option.bind_some, catL_ok (by rw [List.length_append]; omega)]
    refine ⟨_, rfl, ⟨?_, fun t ht => ?_⟩⟩
    · have e : ∀ (xs : List Str) (k : Int), xs.length ≤ 9 → (cutD xs none (some k) ++ cutD xs (some k) (some (k + 1)) ++ cutD xs (some k) none).length ≤ 20 := by
        intro xs k hx
        rw [List.length_append, List.length_append]
        unfold cutD
        simp only [List.length_take, List.length_drop]
        have h1 : HT.sIx xs.length xs.length (some k) ≤ xs.length := by unfold HT.sIx; simp; split <;> omega
        have h2 : HT.sIx xs.length 0 (some k) = HT.sIx xs.length xs.length (some k) := by unfold HT.sIx; rfl
        have h3 : HT.sIx xs.length xs.length (none : Option Int) = xs.length := rfl
        have h4 : HT.sIx xs.length 0 (none : Option Int) = 0 := rfl
        rw [h2, h3, h4]
        omega
      exact e ls at_ l8
    · rcases List.mem_append.mp ht with ht | ht
      · rcases List.mem_append.mp ht with ht | ht
        · exact cg _ _ t ht
        · exact cg _ _ t ht
      · exact cg _ _ t ht
  split
  · exact two _ _ _ _
  split
  · obtain ⟨x, ex, mx⟩ := pick2 (xs := [("first" : Str), ("second" : Str), ("First" : Str), ("" : Str), ("third" : Str), ("0" : Str), ("second " : Str), ("firs" : Str)]) (n := 8) rfl (by decide) (cell / 8)
    have gx : GoodTx x := by
      simp only [List.mem_cons, List.not_mem_nil, or_false] at mx
      rcases mx with rfl | rfl | rfl | rfl | rfl | rfl | rfl | rfl <;> exact GoodTx.const (by decide +kernel)
    have a := cl none (some (-(1 : Int)))
    rw [ex, Option.bind_some, Option.bind_some, catL_ok (by rw [List.length_singleton]; omega)]
    refine ⟨_, rfl, ⟨by rw [List.length_append, List.length_singleton]; omega, fun t ht => ?_⟩⟩
    rcases List.mem_append.mp ht with ht | ht
    · exact cg _ _ t ht
    · rw [List.mem_singleton.mp ht]; exact gx
  split
  · exact ⟨[], rfl, ⟨by simp, by simp⟩⟩
  split
  · rename_i q
    rw [Bool.and_eq_true, decide_eq_true_eq, decide_eq_true_eq] at q
    have q2 := q.2
    rw [modT_ok (by omega), Option.bind_some]
    have b0 := Int.emod_nonneg (cell / 8) (show ((ls.length : Int) - 2) ≠ 0 by omega)
    have b1 := Int.emod_lt_of_pos (cell / 8) (show (0 : Int) < (ls.length : Int) - 2 by omega)
    generalize cell / 8 % ((ls.length : Int) - 2) = k at b0 b1
    obtain ⟨x, ex, mx, _⟩ := atI_ok (xs := ls) (i := k) b0 (by omega)
    obtain ⟨y, ey, my, _⟩ := atI_ok (xs := ls) (i := k + 1) (by omega) (by omega)
    have gx := gl.g x mx
    have gy := gl.g y my
    have lx := s20 x mx
    have ly := s20 y my
    have l1 := cut_len x none (some (-(1 : Int)))
    have l2 := cut_len x (some (-(1 : Int))) none
    rw [ex, Option.bind_some, Option.bind_some, Option.bind_some, Option.bind_some, Option.bind_some, Option.bind_some, Option.bind_some, Option.bind_some, ey, Option.bind_some, catS_ok (by omega), Option.bind_some, Option.bind_some]
    have a := cl none (some k)
    have b := cl (some (k + 2)) none
    have e2 : (cutD ls none (some k)).length + (cutD ls (some (k + 2)) none).length ≤ 9 := by
      rw [cutD_nat_to _ b0, cutD_nat_from _ (by omega), List.length_take, List.length_drop]; omega
    rw [catL_ok (by show _ + 2 ≤ _; omega), Option.bind_some, catL_ok (by rw [List.length_append]; show _ + 2 + _ ≤ _; omega)]
    refine ⟨_, rfl, ⟨by rw [List.length_append, List.length_append]; show _ + 2 + _ ≤ _; omega, fun t ht => ?_⟩⟩
    rcases List.mem_append.mp ht with ht | ht
    · rcases List.mem_append.mp ht with ht | ht
      · exact cg _ _ t ht
      · simp only [List.mem_cons, List.not_mem_nil, or_false] at ht
        rcases ht with rfl | rfl
        · exact ⟨by omega, fun c hc => gx.c c (cut_mem hc)⟩
        · exact ⟨by rw [cat_len]; omega, cat_mem (fun c hc => gx.c c (cut_mem hc)) gy.c⟩
    · exact cg _ _ t ht
  split
  · exact ⟨ls, rfl, gl⟩
  · exact line_changed_ok gl ln l8 s20 gk cell
/-! ### read -/
theorem atI_last {α : Type} (xs : List α) (x : α) : atI (xs ++ [x]) (-(1 : Int)) = some x := by
  unfold atI ixN
  rw [if_neg (by decide), if_pos (by rw [List.length_append, List.length_singleton]; omega), Option.bind_some]
  have : ((-1 : Int) + ((xs ++ [x]).length : Int)).toNat = xs.length := by rw [List.length_append, List.length_singleton]; omega
  rw [this]; simp
theorem cutD_init {α : Type} (xs : List α) (x : α) : cutD (xs ++ [x]) none (some (-(1 : Int))) = xs := by
  unfold cutD
  have h4 : HT.sIx (xs ++ [x]).length 0 (none : Option Int) = 0 := rfl
  have h5 : HT.sIx (xs ++ [x]).length (xs ++ [x]).length (some (-(1 : Int))) = xs.length := by
    unfold HT.sIx; simp; omega
  rw [h4, h5, List.drop_zero, Nat.sub_zero]; simp
/-- the row of lines from the top -/
def rowC (ls : List Str) : List Nat := (ls.reverse.map (·.cps.toList)).flatten
theorem rowC_cons (l : Str) (ls : List Str) : rowC (l :: ls) = rowC ls ++ l.cps.toList := by unfold rowC; simp
theorem rowC_len {w : Int} : ∀ {ls : List Str}, (∀ l ∈ ls, (l.length : Int) = w) → ((rowC ls).length : Int) = w * ls.length
  | [], _ => by simp [rowC]
  | l :: ls, h => by
    rw [rowC_cons, List.length_append, ← str_length, List.length_cons]
    have := rowC_len (ls := ls) fun x hx => h x (List.mem_cons_of_mem _ hx)
    have := h l List.mem_cons_self
    push_cast
    rw [Int.mul_add, Int.mul_one]; omega
theorem rowC_mem {ls : List Str} {P : Nat → Prop} (h : ∀ l ∈ ls, ∀ c ∈ l.cps.toList, P c) : ∀ c ∈ rowC ls, P c := fun c hc => by
  obtain ⟨l, hl, hc⟩ := List.mem_flatten.mp hc
  obtain ⟨s, hs, rfl⟩ := List.mem_map.mp hl
  exact h s (List.mem_reverse.mp hs) c hc
def strC (cs : List Nat) : Str := ⟨cs.toArray⟩
theorem strC_cps (cs : List Nat) : (strC cs).cps.toList = cs := by unfold strC; simp
theorem strC_len (cs : List Nat) : (strC cs).length = cs.length := by rw [str_length, strC_cps]
/-- the law's loop -/
theorem law_join {w : Int} : ∀ {ls : List Str} {v : Str}, ls.length ≤ 20 → (∀ l ∈ ls, l.length ≤ 40) → v.length ≤ 1000 →
    forT (fun v8 one => (if (!decide ((one.length : Int) = w)) = true then (some (.rt (none : Option (Str × Int)))) else ((catS one v8).bind fun row_here => (some (.nx row_here))))) ls v = some (if (∀ l ∈ ls, (l.length : Int) = w) then .nx (strC (rowC ls ++ v.cps.toList)) else .rt none)
  | [], v, _, _, _ => by
    rw [forT_nil, if_pos (by simp)]
    exact congrArg (fun z => some (Ctl.nx z)) (str_ext (by rw [strC_cps]; simp [rowC]))
  | l :: ls, v, h1, h2, h3 => by
    have l40 := h2 l List.mem_cons_self
    rw [List.length_cons] at h1
    rw [forT_cons]
    by_cases c : (l.length : Int) = w
    · rw [if_neg (by simp [c]), catS_ok (by omega), Option.bind_some, Option.bind_some]
      dsimp only
      by_cases q : 40 * (ls.length + 1) + v.length ≤ 3000
      · have gen : ∀ (ls : List Str) (u : Str), 40 * ls.length + u.length ≤ 3000 → (∀ l ∈ ls, l.length ≤ 40) → forT (fun v8 one => (if (!decide ((one.length : Int) = w)) = true then (some (.rt (none : Option (Str × Int)))) else ((catS one v8).bind fun row_here => (some (.nx row_here))))) ls u = some (if (∀ l ∈ ls, (l.length : Int) = w) then .nx (strC (rowC ls ++ u.cps.toList)) else .rt none) := by
          intro ls
          induction ls with
          | nil =>
            intro u _ _
            rw [forT_nil, if_pos (by simp)]
            exact congrArg (fun z => some (Ctl.nx z)) (str_ext (by rw [strC_cps]; simp [rowC]))
          | cons x xs ih =>
            intro u hu hx
            rw [List.length_cons] at hu
            have x40 := hx x List.mem_cons_self
            rw [forT_cons]
            by_cases cx : (x.length : Int) = w
            · rw [if_neg (by simp [cx]), catS_ok (by omega), Option.bind_some, Option.bind_some]
              dsimp only
              rw [ih (x ++ u) (by rw [cat_len]; omega) fun y hy => hx y (List.mem_cons_of_mem _ hy)]
              congr 1
              by_cases a : ∀ l ∈ xs, (l.length : Int) = w
              · rw [if_pos a, if_pos (by intro y hy; rcases List.mem_cons.mp hy with rfl | hy; exact cx; exact a y hy)]
                congr 1
                exact str_ext (by rw [strC_cps, strC_cps, cps_append, rowC_cons, List.append_assoc])
              · rw [if_neg a, if_neg fun z => a fun y hy => z y (List.mem_cons_of_mem _ hy)]
            · rw [if_pos (by simp [cx]), Option.bind_some]
              rw [if_neg fun z => cx (z x List.mem_cons_self)]
        rw [gen ls (l ++ v) (by rw [cat_len]; omega) fun y hy => h2 y (List.mem_cons_of_mem _ hy)]
        congr 1
        by_cases a : ∀ l ∈ ls, (l.length : Int) = w
        · rw [if_pos a, if_pos (by intro y hy; rcases List.mem_cons.mp hy with rfl | hy; exact c; exact a y hy)]
          congr 1
          exact str_ext (by rw [strC_cps, strC_cps, cps_append, rowC_cons, List.append_assoc])
        · rw [if_neg a, if_neg fun z => a fun y hy => z y (List.mem_cons_of_mem _ hy)]
      · omega
    · rw [if_pos (by simp [c]), Option.bind_some, if_neg fun z => c (z l List.mem_cons_self)]
/-- the program's -/
theorem prog_lens {w : Int} : ∀ {ls : List Str}, forT (fun (_ : Unit) (line : Str) => (bindX (t_need (decide ((line.length : Int) = w))) (fun _ => (some (.nx ()))) (fun c => (Ctl.rt (Rt.ex c) : Ctl Unit (Rt (Str × Int)))))) ls () = some (if (∀ l ∈ ls, (l.length : Int) = w) then .nx () else .rt (.ex "BadPlace"))
  | [] => by rw [forT_nil, if_pos (by simp)]
  | l :: ls => by
    rw [forT_cons]
    by_cases c : (l.length : Int) = w
    · have : bindX (t_need (decide ((l.length : Int) = w))) (fun _ => (some (.nx ()))) (fun c => (Ctl.rt (Rt.ex c) : Ctl Unit (Rt (Str × Int)))) = some (.nx ()) := by rw [decide_eq_true c]; rfl
      rw [this, Option.bind_some]
      dsimp only
      rw [prog_lens]
      congr 1
      by_cases a : ∀ l ∈ ls, (l.length : Int) = w
      · rw [if_pos a, if_pos (by intro y hy; rcases List.mem_cons.mp hy with rfl | hy; exact c; exact a y hy)]
      · rw [if_neg a, if_neg fun z => a fun y hy => z y (List.mem_cons_of_mem _ hy)]
    · have : bindX (t_need (decide ((l.length : Int) = w))) (fun _ => (some (.nx ()))) (fun c => (Ctl.rt (Rt.ex c) : Ctl Unit (Rt (Str × Int)))) = some (.rt (.ex "BadPlace")) := by rw [decide_eq_false c]; rfl
      rw [this, Option.bind_some, if_neg fun z => c (z l List.mem_cons_self)]
open Classical in
noncomputable def readS (g : TGame) (ls : List Str) : Option (Str × Int) :=
  if (ls.length : Int) = g.board.high + 1 ∧ (ls.getLast? = some ("first" : Str) ∨ ls.getLast? = some ("second" : Str)) ∧ (∀ l ∈ ls.dropLast, (l.length : Int) = g.board.wide) ∧ ((rng (g.board.wide * g.board.high)).all fun i => mayB g i (chr (strC (rowC ls.dropLast)) i)) = true
  then some (strC (rowC ls.dropLast), if ls.getLast? = some ("second" : Str) then 1 else 0) else none
theorem need_t : t_need true = some (.ok ()) := rfl
theorem need_f : t_need false = some (.ex "BadPlace") := rfl
theorem ne_words : ¬ ("first" : Str) = "second" := by decide +kernel
theorem ne_words2 : ¬ ("second" : Str) = "first" := by decide +kernel
theorem lastW {x : Str} (h : x = "first" ∨ x = "second") : indexT [("first" : Str), ("second" : Str)] x = some (if x = "second" then 1 else 0) := by
  rcases h with rfl | rfl
  · rw [if_neg ne_words]; rfl
  · rw [if_pos rfl]
    unfold indexT
    rw [List.findIdx?_cons, decide_eq_false ne_words]; rfl
theorem place_of_ok {g : TGame} (gg : GoodG g) {ls : List Str} (gl : GoodLs ls) : t_place_of g ls = some (match readS g ls with | some p => .ok p | none => .ex "BadPlace") := by
  obtain ⟨a1, a2⟩ := gg.b.area
  have w1 := gg.b.w1
  have w8 := gg.b.w8
  unfold t_place_of
  by_cases c1 : (ls.length : Int) = g.board.high + 1
  · rw [if_pos (by simp [c1])]
    have hne : ls ≠ [] := fun z => by rw [z] at c1; have := gg.b.h1; simp at c1; omega
    obtain ⟨body, last, rfl⟩ : ∃ body last, ls = body ++ [last] := ⟨_, _, (List.dropLast_concat_getLast hne).symm⟩
    rw [atI_last, Option.bind_some, Option.bind_some, cutD_init]
    have lb : (body.length : Int) = g.board.high := by rw [List.length_append, List.length_singleton] at c1; push_cast at c1; omega
    have b20 : body.length ≤ 20 := by have := gl.l; rw [List.length_append] at this; omega
    have gb : ∀ l ∈ body, GoodTx l := fun l hl => gl.g l (List.mem_append_left _ hl)
    unfold readS
    rw [List.getLast?_concat, List.dropLast_concat]
    by_cases c2 : last = "first" ∨ last = "second"
    · have m2 : decide (last ∈ [("first" : Str), ("second" : Str)]) = true := by
        rcases c2 with rfl | rfl <;> simp
      rw [m2, Option.bind_some, need_t, bindX_ok, prog_lens]
      by_cases c3 : ∀ l ∈ body, (l.length : Int) = g.board.wide
      · rw [if_pos c3, bindC_nx]
        have hsum : (body.reverse.map (·.length)).sum ≤ 1000000 := by
          rw [List.map_reverse, List.sum_reverse]
          have : ∀ (xs : List Str), (∀ l ∈ xs, l.length ≤ 40) → (xs.map (·.length)).sum ≤ 40 * xs.length := by
            intro xs
            induction xs with
            | nil => intro _; simp
            | cons x xs ih =>
              intro h
              rw [List.map_cons, List.sum_cons, List.length_cons]
              have := ih fun l hl => h l (List.mem_cons_of_mem _ hl)
              have := h x List.mem_cons_self
              omega
          have := this body fun l hl => (gb l hl).l
          omega
        obtain ⟨z, ez, hz⟩ := joinT_ok hsum
        have ezz : z = strC (rowC body) := str_ext (by rw [strC_cps, hz]; rfl)
        rw [Option.bind_some, Option.bind_some, ez, Option.bind_some, lastW c2, Option.bind_some, Option.bind_some, ezz]
        have hch : ∀ c ∈ (strC (rowC body)).cps.toList, chC c := by
          rw [strC_cps]
          exact rowC_mem fun l hl => (gb l hl).c
        have e0 := is_place_pair gg hch (if last = "second" then 1 else 0)
        have e0 : t_is_place g ((eT2 D.str D.int) (strC (rowC body), if last = "second" then 1 else 0)) = some (ans g (strC (rowC body)) (if last = "second" then 1 else 0)) := e0
        rw [e0, Option.bind_some]
        have la : ((strC (rowC body)).length : Int) = g.board.wide * g.board.high := by rw [strC_len, rowC_len c3, lb]
        have sd : (0 : Int) ≤ (if last = "second" then 1 else 0) ∧ (if last = "second" then (1 : Int) else 0) ≤ 1 := by split <;> omega
        have ea : ans g (strC (rowC body)) (if last = "second" then 1 else 0) = (rng (g.board.wide * g.board.high)).all fun i => mayB g i (chr (strC (rowC body)) i) := by
          unfold ans
          rw [decide_eq_true la, decide_eq_true sd]; rfl
        rw [ea]
        have l2 : (some last = some ("first" : Str) ∨ some last = some ("second" : Str)) := by
          rcases c2 with rfl | rfl
          · exact .inl rfl
          · exact .inr rfl
        cases q : (rng (g.board.wide * g.board.high)).all fun i => mayB g i (chr (strC (rowC body)) i) with
        | true =>
          have hc : ((body ++ [last]).length : Int) = g.board.high + 1 ∧ (some last = some ("first" : Str) ∨ some last = some ("second" : Str)) ∧ (∀ l ∈ body, (l.length : Int) = g.board.wide) ∧ true = true := ⟨c1, l2, c3, rfl⟩
          rw [need_t, bindX_ok, if_pos hc]
          have : (if some last = some ("second" : Str) then (1 : Int) else 0) = if last = "second" then 1 else 0 := by
            by_cases e : last = "second"
            · rw [if_pos e, if_pos (by rw [e])]
            · rw [if_neg e, if_neg fun z => e (Option.some.inj z)]
          rw [this]
        | false =>
          have hc : ¬ (((body ++ [last]).length : Int) = g.board.high + 1 ∧ (some last = some ("first" : Str) ∨ some last = some ("second" : Str)) ∧ (∀ l ∈ body, (l.length : Int) = g.board.wide) ∧ false = true) := fun z => by cases z.2.2.2
          rw [need_f, bindX_ex, if_neg hc]
      · rw [if_neg c3, bindC_rt, if_neg fun z => c3 z.2.2.1]
    · have m2 : decide (last ∈ [("first" : Str), ("second" : Str)]) = false := by
        refine decide_eq_false fun z => c2 ?_
        simpa using z
      rw [m2, Option.bind_some, need_f, bindX_ex, if_neg fun z => c2 (by
        rcases z.2.1 with z | z
        · exact .inl (Option.some.inj z)
        · exact .inr (Option.some.inj z))]
  · rw [if_neg (by simp [c1]), Option.bind_some, need_f, bindX_ex]
    unfold readS
    rw [if_neg fun z => c1 z.1]
theorem law_read_ok {g : TGame} (gg : GoodG g) {w h : Int} {hs : List Int} (ew : g.board.wide = w) (eh : g.board.high = h) (ehs : ∀ x, x ∈ g.board.holes ↔ x ∈ hs) {ls : List Str} (gl : GoodLs ls) : t_law_read ls w h hs g.kinds = some (readS g ls) := by
  subst ew eh
  obtain ⟨a1, a2⟩ := gg.b.area
  have w1 := gg.b.w1
  have w8 := gg.b.w8
  unfold t_law_read
  by_cases c1 : (ls.length : Int) = g.board.high + 1
  · rw [if_neg (by simp [c1])]
    have hne : ls ≠ [] := fun z => by rw [z] at c1; have := gg.b.h1; simp at c1; omega
    obtain ⟨body, last, rfl⟩ : ∃ body last, ls = body ++ [last] := ⟨_, _, (List.dropLast_concat_getLast hne).symm⟩
    rw [atI_last, Option.bind_some, Option.bind_some, cutD_init]
    have lb : (body.length : Int) = g.board.high := by rw [List.length_append, List.length_singleton] at c1; push_cast at c1; omega
    have b20 : body.length ≤ 20 := by have := gl.l; rw [List.length_append] at this; omega
    have gb : ∀ l ∈ body, GoodTx l := fun l hl => gl.g l (List.mem_append_left _ hl)
    unfold readS
    rw [List.getLast?_concat, List.dropLast_concat]
    by_cases c2 : last = "first" ∨ last = "second"
    · have m2 : decide (last ∈ [("first" : Str), ("second" : Str)]) = true := by
        rcases c2 with rfl | rfl <;> simp
      rw [m2, if_neg (by simp), law_join b20 (fun l hl => (gb l hl).l) (by decide +kernel)]
      by_cases c3 : ∀ l ∈ body, (l.length : Int) = g.board.wide
      · rw [if_pos c3, bindC_nx]
        have e0 : rowC body ++ ("" : Str).cps.toList = rowC body := by rw [show ("" : Str).cps.toList = [] from by decide +kernel, List.append_nil]
        rw [e0]
        have la : ((strC (rowC body)).length : Int) = g.board.wide * g.board.high := by rw [strC_len, rowC_len c3, lb]
        have ep := pieces_ok gg.k
        rw [lcT_map (g := upK) (fun k hk => by
          obtain ⟨l, rfl, hl⟩ := gg.k.q k hk
          exact upp_lo hl), Option.bind_some] at ep
        rw [lcT_map (g := upK) (fun k hk => by
          obtain ⟨l, rfl, hl⟩ := gg.k.q k hk
          exact upp_lo hl), Option.bind_some, ep, Option.bind_some, catL_ok (by have := gg.k.l; rw [List.length_append, List.length_map, List.length_singleton]; omega), Option.bind_some, gg.b.mul, Option.bind_some, rngT_ok (by omega) (by omega), Option.bind_some]
        rw [forT_any (bad := fun i => !mayB g i (chr (strC (rowC body)) i)) (r := (none : Option (Str × Int))) (fun i hi => by
          obtain ⟨h0, h1⟩ := mem_rng.mp hi
          obtain ⟨c, ec, _, qc⟩ := atS_ok (s := strC (rowC body)) (i := i) h0 (by rw [la]; exact h1)
          have ecc : chr (strC (rowC body)) i = c := by unfold chr; rw [qc]; rfl
          rw [ec, ecc, Option.bind_some, Option.bind_some, hole_eq, in_pieces gg.k]
          unfold mayB
          by_cases hh : i ∈ g.board.holes
          · have hh2 := (ehs i).mp hh
            by_cases c35 : c = 35 <;> simp [hh, hh2, c35]
          · have hh2 : ¬ i ∈ hs := fun z => hh ((ehs i).mpr z)
            rw [if_neg (by simp [hh2])]
            generalize (decide (c = 46) || decide (isLo c ∧ sg1 c ∈ g.kinds) || decide (isUp c ∧ sg1 (c + 32) ∈ g.kinds)) = b
            cases b <;> simp [hh, hh2])]
        have e : ((rng (g.board.wide * g.board.high)).any fun i => !mayB g i (chr (strC (rowC body)) i)) = !((rng (g.board.wide * g.board.high)).all fun i => mayB g i (chr (strC (rowC body)) i)) := by
          rw [List.not_all_eq_any_not]
        rw [e]
        have l2 : (some last = some ("first" : Str) ∨ some last = some ("second" : Str)) := by
          rcases c2 with rfl | rfl
          · exact .inl rfl
          · exact .inr rfl
        cases q : (rng (g.board.wide * g.board.high)).all fun i => mayB g i (chr (strC (rowC body)) i) with
        | true =>
          rw [if_neg (by simp), bindC_nx, if_pos ⟨c1, l2, c3, rfl⟩, Option.bind_some, Option.bind_some, Option.bind_some, Option.bind_some]
          by_cases e : last = "second"
          · rw [decide_eq_true e, if_pos (by rw [e])]; rfl
          · rw [decide_eq_false e, if_neg fun z => e (Option.some.inj z)]; rfl
        | false =>
          rw [if_pos (by simp), bindC_rt, if_neg fun z => by cases z.2.2.2]
      · rw [if_neg c3, bindC_rt, if_neg fun z => c3 z.2.2.1]
    · have m2 : decide (last ∈ [("first" : Str), ("second" : Str)]) = false := by
        refine decide_eq_false fun z => c2 ?_
        simpa using z
      rw [m2, if_pos (by simp), if_neg fun z => c2 (by
        rcases z.2.1 with z | z
        · exact .inl (Option.some.inj z)
        · exact .inr (Option.some.inj z))]
  · rw [if_pos (by simp [c1]), Option.bind_some, if_pos rfl]
    unfold readS
    rw [if_neg fun z => c1 z.1]
theorem alone_BadPlace : t_law_alone "BadPlace" = some true := by decide +kernel
theorem told_ok {g : TGame} (gg : GoodG g) {ls : List Str} (gl : GoodLs ls) : t_law_told g ls = some ((eO (eT2 D.str D.int)) (readS g ls)) := by
  have e1 : ctOf ["BadPlace"] "PlayError" "BadPlace" = some true := by decide +kernel
  have e2 : subX "BadPlace" "BadPlace" = true := by decide +kernel
  unfold t_law_told
  rw [place_of_ok gg gl]
  cases readS g ls with
  | some m => rfl
  | none =>
    show Dl.bindC (σ := Unit) (if ctOf ["BadPlace"] "PlayError" "BadPlace" = some true then ((((if (subX "BadPlace" "BadPlace") = true then (t_law_alone "BadPlace") else some false).bind fun z2 => if z2 = true then (some none) else (some (some ("another refusal" : Str)))).bind fun z3 => some ((eO D.str) z3)).bind fun z4 => some (.rt z4)) else none) _ _ = _
    rw [if_pos e1, if_pos e2, alone_BadPlace]; rfl
theorem ne_same (o : Option (Str × Int)) : neB ((eO (eT2 D.str D.int)) o) ((eO (eT2 D.str D.int)) o) = some false := by
  have := t_ne (enc_o (enc_t2 enc_str enc_int) (fun _ => rfl)) (by decide) o o
  unfold neB
  unfold opNe at this
  split at this
  · rename_i q
    rw [if_pos q]
    have := D.bl.inj (Option.some.inj this)
    rw [this]; simp
  · cases this
/-! ### the law -/
theorem word_cps : ("first" : Str).cps.toList = [102, 105, 114, 115, 116] ∧ ("second" : Str).cps.toList = [115, 101, 99, 111, 110, 100] := by decide +kernel
theorem dec_lo (c : Nat) (h : decide (97 ≤ c ∧ c < 123) = true) : isLo c := of_decide_eq_true h
theorem word_good {x : Str} (h : x = "first" ∨ x = "second") : GoodK (sgs x) ∧ (5 ≤ x.length ∧ x.length ≤ 6) ∧ ∀ c ∈ x.cps.toList, isLo c := by
  have key : ∀ cs : List Nat, x.cps.toList = cs → cs.Nodup → (∀ c ∈ cs, isLo c) → (5 ≤ cs.length ∧ cs.length ≤ 6) → GoodK (sgs x) ∧ (5 ≤ x.length ∧ x.length ≤ 6) ∧ ∀ c ∈ x.cps.toList, isLo c := by
    intro cs e nd lo ln
    have es : sgs x = cs.map sg1 := by unfold sgs; rw [e]
    refine ⟨⟨?_, ?_, ?_, ?_⟩, ?_, ?_⟩
    · rw [es]; intro z; rw [List.map_eq_nil_iff] at z; rw [z] at ln; simp at ln
    · rw [es]; intro k hk; obtain ⟨c, hc, rfl⟩ := List.mem_map.mp hk; exact ⟨c, rfl, lo c hc⟩
    · rw [es]
      unfold List.Nodup
      rw [List.pairwise_map]
      exact List.Pairwise.imp (fun {a b} h z => h (sg1_inj.mp z)) nd
    · rw [es, List.length_map]; exact ln.2
    · rw [str_length, e]; exact ln
    · rw [e]; exact lo
  rcases h with rfl | rfl
  · exact key _ word_cps.1 (by decide) (by intro c hc; simp only [List.mem_cons, List.not_mem_nil, or_false] at hc; rcases hc with rfl | rfl | rfl | rfl | rfl <;> exact dec_lo _ (by decide)) (by decide)
  · exact key _ word_cps.2 (by decide) (by intro c hc; simp only [List.mem_cons, List.not_mem_nil, or_false] at hc; rcases hc with rfl | rfl | rfl | rfl | rfl | rfl <;> exact dec_lo _ (by decide)) (by decide)
theorem main_ok {ns : List Int} {g : TGame} (gg : GoodG g) {w h : Int} {hs : List Int} (ew : g.board.wide = w) (eh : g.board.high = h) (ehs : ∀ x, x ∈ g.board.holes ↔ x ∈ hs) {row : Str} (hr : ∀ c ∈ row.cps.toList, okc c) {side : Int} (hsd : side = 0 ∨ side = 1) (h63 : ns.length ≤ 63) :
    ((t_law_lines (row, side) w h).bind fun due => ((t_shown g (row, side)).bind fun found => (if ((!true) || ((!decide (found = due)) || (!decide (((found.filter fun one => (!true)).map fun one => one) = ([] : (List Str)))))) = true then (some false) else ((appT found ("more" : Str)).bind fun found1 => ((((t_shown g (row, side)).bind fun z26 => some (!decide (z26 = due))).bind fun z28 => if z28 = true then some true else ((catL due [("more" : Str)]).bind fun z24 => some (!decide (found1 = z24)))).bind fun z53 => if z53 = true then (some false) else ((((((t_law_cell_at ns (4 : Int)).bind fun z29 => (t_law_mixed z29 (2 : Int))).bind fun z30 => (some [(7 : Int), z30])).bind fun z34 => (lcT (fun cell => (some true)) (fun cell => (t_law_mixed cell (1 : Int))) (cutD ns (some (12 : Int)) (some (18 : Int)))).bind fun z35 => (catL z34 z35)).bind fun z36 => (catL z36 [(7 : Int)])).bind fun cells => (bindC (forT (fun v38 cell1 => ((t_law_changed due cell1 g.kinds).bind fun lines_here => ((t_law_told g lines_here).bind fun told_here => (((((t_law_read lines_here w h hs g.kinds).bind fun z39 => some ((eO (eT2 D.str D.int)) z39)).bind fun z40 => (neB told_here z40)).bind fun z42 => if z42 = true then some true else (some (!decide (lines_here = lines_here)))).bind fun z50 => if z50 = true then (some (.rt false)) else ((if (!isNon told_here) = true then (((isiD told_here "tuple").bind fun z47 => some (!z47)).bind fun z48 => if z48 = true then some true else (((opIx told_here (D.int (1 : Int))).bind fun z45 => (t_law_whole z45)).bind fun z46 => some (!z46))) else some false).bind fun z49 => if z49 = true then (some (.rt false)) else (some (.nx ()))))))) cells ()) (fun v51 => (some true)) (fun r => r)))))))) = some true := by
  have h1 := gg.b.h1
  have h8 := gg.b.h8
  have w1 := gg.b.w1
  have w8 := gg.b.w8
  rw [eh] at h1 h8
  rw [ew] at w1 w8
  have hl := rng_len h
  obtain ⟨c4, e4⟩ := cell_at_ok ns (k := 4) (by decide)
  obtain ⟨m4, em4, _⟩ := mixed_ok c4 2
  rw [law_lines_ok h1 h8 w1 w8 row hsd, Option.bind_some, shown_ok gg row hsd, Option.bind_some, ew, eh]
  have lw : (sideW side).length ≤ 19 := by rcases hsd with rfl | rfl <;> decide +kernel
  have gw : GoodTx (sideW side) := by rcases hsd with rfl | rfl <;> exact GoodTx.const (by decide +kernel)
  have ll : ∀ b, 0 ≤ b → (lineA row w b).length ≤ 8 := fun b hb => by
    have p : 0 ≤ b * w := Int.mul_nonneg hb (by omega)
    unfold lineA
    generalize b * w = q at p
    rw [str_length, cps_cut]
    unfold cutD
    rw [List.length_take]
    have : HT.sIx row.cps.toList.length row.cps.toList.length (some (q + w)) - HT.sIx row.cps.toList.length 0 (some q) ≤ 8 := by
      unfold HT.sIx; simp; split <;> split <;> omega
    omega
  have ld : (dueS row w h side).length = h.toNat + 1 := by unfold dueS; rw [List.length_append, List.length_map, hl, List.length_singleton]
  have hd : ∀ t ∈ dueS row w h side, GoodTx t ∧ t.length ≤ 19 := fun t ht => by
    unfold dueS at ht
    rcases List.mem_append.mp ht with ht | ht
    · obtain ⟨k, hk, rfl⟩ := List.mem_map.mp ht
      have hk := mem_rng.mp hk
      have := ll (h - 1 - k) (by omega)
      exact ⟨⟨by omega, fun c hc => .inl (hr c (cut_mem hc))⟩, by omega⟩
    · rw [List.mem_singleton.mp ht]; exact ⟨gw, lw⟩
  have gl : GoodLs (dueS row w h side) := ⟨by omega, fun t ht => (hd t ht).1⟩
  have fl : ((dueS row w h side).filter fun one => (!true)).map (fun one => one) = ([] : List Str) := by simp
  rw [fl, if_neg (by simp), appT_ok (by omega), Option.bind_some, Option.bind_some, Option.bind_some, if_neg (by simp), catL_ok (by rw [List.length_singleton]; omega), Option.bind_some, Option.bind_some, if_neg (by simp), e4, Option.bind_some, em4, Option.bind_some, Option.bind_some]
  obtain ⟨ms, ems, lms, _⟩ := lcT_each (G := fun cell => (t_law_mixed cell (1 : Int))) (Q := fun _ => True) (xs := cutD ns (some (12 : Int)) (some (18 : Int))) (fun x _ => ⟨_, (mixed_ok x 1).choose_spec.1, trivial⟩)
  have l12 := cutD_len ns (some (12 : Int)) (some (18 : Int))
  rw [ems, Option.bind_some, catL_ok (by show 2 + _ ≤ _; omega), Option.bind_some, catL_ok (by rw [List.length_append, List.length_singleton]; show 2 + _ + 1 ≤ _; omega), Option.bind_some]
  rw [forT_unit (fun cell _ => by
    obtain ⟨ls, e, gls⟩ := changed_ok gl (by omega) (by omega) (fun t ht => (hd t ht).2) gg.k cell
    rw [e, Option.bind_some, told_ok gg gls, Option.bind_some, law_read_ok gg ew eh ehs gls, Option.bind_some, Option.bind_some, ne_same, Option.bind_some, if_neg (by simp), Option.bind_some, if_neg (by simp)]
    cases readS g ls with
    | none => rfl
    | some p =>
      have n1 : isNon ((eO (eT2 D.str D.int)) (some p)) = false := rfl
      have n2 : isiD ((eO (eT2 D.str D.int)) (some p)) "tuple" = some true := isiD_tup_tuple _
      have n3 : opIx ((eO (eT2 D.str D.int)) (some p)) (D.int (1 : Int)) = some (D.int p.2) := rfl
      have n4 : t_law_whole (D.int p.2) = some true := rfl
      rw [n1, if_pos (by rfl), n2, Option.bind_some, Option.bind_some, if_neg (by simp), n3, Option.bind_some, n4]; rfl), bindC_nx]
theorem law_t (ns : List Int) (h63 : ns.length ≤ 63) : t_law ns = some true := by
  obtain ⟨w, h, hs, e1, gb⟩ := board_ok ns
  obtain ⟨c2, e2⟩ := cell_at_ok ns (k := 2) (by decide)
  obtain ⟨ks, e3, kn, kq, kd, kl⟩ := kinds_ok c2
  obtain ⟨c3, e5⟩ := cell_at_ok ns (k := 3) (by decide)
  obtain ⟨word, ewd, mwd⟩ := pick2 (xs := [("first" : Str), ("second" : Str)]) (n := 2) rfl (by decide) (c3 / 2)
  have hwd : word = "first" ∨ word = "second" := by simpa using mwd
  have hsd : c3 % 2 = 0 ∨ c3 % 2 = 1 := by omega
  have noh : sortI [] = ([] : List Int) := List.perm_nil.mp (sortI_perm [])
  have gg0 : ∀ {w h : Int} {hs : List Int} {ks : List Str}, GoodB w h hs → GoodK ks → GoodG ⟨⟨w, h, sortI hs⟩, ks, [], [], [], "lost"⟩ := fun gb gk => ⟨gb.sort, gk, by simp, by simp, ⟨by simp, by simp, by simp⟩, ⟨by simp, by simp⟩, .inl rfl⟩
  unfold t_law
  rw [e1, Option.bind_some, e2, Option.bind_some, e3, Option.bind_some, e5, Option.bind_some, Option.bind_some, Option.bind_some, ewd, Option.bind_some, Option.bind_some, Option.bind_some, Option.bind_some, Option.bind_some]
  by_cases cw : c3 / 4 % 16 = 3
  · obtain ⟨gk, ⟨l5, l6⟩, lo⟩ := word_good hwd
    have gb2 : GoodB (word.length : Int) h [] := ⟨by omega, by omega, gb.h1, gb.h8, by simp, by simp, by
      have := (area (w := (word.length : Int)) (h := h) (by omega) (by omega) gb.h1 gb.h8).1
      have e0 : (([] : List Int).length : Int) = 0 := rfl
      omega⟩
    have gg := gg0 gb2 gk
    obtain ⟨row, e4, gr⟩ := law_row_ok gg ns (start := 5) (by decide)
    have hr : ∀ c ∈ row.cps.toList, okc c := fun c hc => by
      obtain ⟨i, hi⟩ := List.getElem?_of_mem hc
      exact (gr.a i c hi).okc
    have la := (area (w := (word.length : Int)) (h := h) (by omega) (by omega) gb.h1 gb.h8)
    have lr : (row.length : Int) = (word.length : Int) * h := by rw [str_length]; exact gr.l
    have lcut := cut_len row (some (word.length : Int)) none
    rw [decide_eq_true cw, if_pos rfl, lett_def, lett_def, lett_def, Option.bind_some]
    dsimp only
    rw [Board_ok gb2, Option.bind_some, Game_ok gg, Option.bind_some, e4, Option.bind_some, Option.bind_some, Option.bind_some, Option.bind_some, if_pos rfl]
    dsimp only
    rw [catS_ok (by omega), Option.bind_some, Option.bind_some, Option.bind_some]
    exact main_ok gg rfl rfl (fun x => by rw [noh]) (row := word ++ cutS' row (some (word.length : Int)) none) (cat_mem (fun c hc => .inr (.inr (.inl (lo c hc)))) fun c hc => hr c (cut_mem hc)) hsd h63
  · have gg := gg0 gb (⟨kn, kq, kd, kl⟩ : GoodK ks)
    obtain ⟨row, e4, gr⟩ := law_row_ok gg ns (start := 5) (by decide)
    have hr : ∀ c ∈ row.cps.toList, okc c := fun c hc => by
      obtain ⟨i, hi⟩ := List.getElem?_of_mem hc
      exact (gr.a i c hi).okc
    rw [decide_eq_false cw, if_neg (by simp), Option.bind_some]
    dsimp only
    rw [Board_ok gb, Option.bind_some, Game_ok gg, Option.bind_some, e4, Option.bind_some, Option.bind_some, Option.bind_some, Option.bind_some, if_neg (by simp), Option.bind_some]
    exact main_ok gg rfl rfl (fun x => (sortI_perm hs).mem_iff) hr hsd h63
theorem law_true (ns : List Int) (h : ns.length ≤ 63) : den_law [.scr ns] = some (.bl true) := law_of_t ns (law_t ns h)
end Pr
set_option maxHeartbeats 4000000
namespace Pr
open PySem L2 Dl
theorem kit_typ {K : PySem.W.Frag} {X : Addr} {T : String} {b : Bool} (h1 : PySem.W.kitMeta T = true) (h2 : PySem.W.subIn K (.ref X) (.type T) = some b) : PySem.W.kitOne K (.ref X) (.type T) = some b := by
  unfold PySem.W.kitOne PySem.W.kitCls
  rw [if_neg (fun h => by cases h)]
  show (if PySem.W.kitMeta T = true then PySem.W.subIn K (.ref X) (.type T) else none) = _
  rw [if_pos h1, h2]
theorem kit_cl {K : PySem.W.Frag} {t : Value} {C : Addr} {b : Bool} (h1 : PySem.W.isClsIn K C = true) (h2 : PySem.W.typeIn K (.ref C) = some (.type "type")) (h3 : PySem.W.subIn K t (.ref C) = some b) : PySem.W.kitCls K t (.ref C) = some b := by
  have h1' : (PySem.W.clsIn K C).isSome = true := h1
  show (if ((PySem.W.clsIn K C).isSome && PySem.W.typeIn K (.ref C) == some (.type "type")) = true then PySem.W.subIn K t (.ref C) else none) = _
  rw [h1', h2, if_pos (by rfl), h3]
theorem kit_ref {K : PySem.W.Frag} {X C : Addr} {b : Bool} (h1 : PySem.W.isClsIn K C = true) (h2 : PySem.W.typeIn K (.ref C) = some (.type "type")) (h3 : PySem.W.subIn K (.ref X) (.ref C) = some b) (h4 : PySem.W.subIn K (.ref C) (.ref C) = some true) : PySem.W.kitOne K (.ref X) (.ref C) = some b := by
  unfold PySem.W.kitOne
  split
  · rename_i q
    have e : (Value.ref X) = .ref C := eq_of_beq q
    cases e
    exact h4.symm.trans h3
  · exact kit_cl h1 h2 h3
theorem exm_ref {K : PySem.W.Frag} {X C : Addr} {b : Bool} (h0 : PySem.W.subIn K (.ref C) (.type "BaseException") = some true) (h1 : PySem.W.isClsIn K C = true) (h2 : PySem.W.typeIn K (.ref C) = some (.type "type")) (h3 : PySem.W.subIn K (.ref X) (.ref C) = some b) : PySem.W.exmOne K (.ref X) (.ref C) = some b := by
  unfold PySem.W.exmOne
  rw [h0, if_pos (by rfl)]
  exact kit_cl h1 h2 h3
theorem all_mk {l : PySem.W.OpenLaw} {w : World} {K : PySem.W.Frag} {h : Heap} {mg : Str → Option Value} {fa : Addr} (X : K.In h) (G : h.Ns mainGlobals mg) (hfa : mg "law" = some (.ref fa))
    {f0 : Addr} {od0 an0 : Option Addr} {sl0 : Array (Option Value)} {oc0 kV0 dc0 pm0 cd0 ct0 : Value}
    {f1 : Addr} {od1 an1 : Option Addr} {sl1 : Array (Option Value)} {oc1 kV1 dc1 pm1 cd1 ct1 : Value}
    {f2 : Addr} {od2 an2 : Option Addr} {sl2 : Array (Option Value)} {oc2 kV2 dc2 pm2 cd2 ct2 : Value}
    {f3 : Addr} {od3 an3 : Option Addr} {sl3 : Array (Option Value)} {oc3 kV3 dc3 pm3 cd3 ct3 : Value}
    {f4 : Addr} {od4 an4 : Option Addr} {sl4 : Array (Option Value)} {oc4 kV4 dc4 pm4 cd4 ct4 : Value}
    {f5 : Addr} {od5 an5 : Option Addr} {sl5 : Array (Option Value)} {oc5 kV5 dc5 pm5 cd5 ct5 : Value}
    {f6 : Addr} {od6 an6 : Option Addr} {sl6 : Array (Option Value)} {oc6 kV6 dc6 pm6 cd6 ct6 : Value}
    {f7 : Addr} {od7 an7 : Option Addr} {sl7 : Array (Option Value)} {oc7 kV7 dc7 pm7 cd7 ct7 : Value}
    {f8 : Addr} {od8 an8 : Option Addr} {sl8 : Array (Option Value)} {oc8 kV8 dc8 pm8 cd8 ct8 : Value}
    {f9 : Addr} {od9 an9 : Option Addr} {sl9 : Array (Option Value)} {oc9 kV9 dc9 pm9 cd9 ct9 : Value}
    {f10 : Addr} {od10 an10 : Option Addr} {sl10 : Array (Option Value)} {oc10 kV10 dc10 pm10 cd10 ct10 : Value}
    {f11 : Addr} {od11 an11 : Option Addr} {sl11 : Array (Option Value)} {oc11 kV11 dc11 pm11 cd11 ct11 : Value}
    {f12 : Addr} {od12 an12 : Option Addr} {sl12 : Array (Option Value)} {oc12 kV12 dc12 pm12 cd12 ct12 : Value}
    {f13 : Addr} {od13 an13 : Option Addr} {sl13 : Array (Option Value)} {oc13 kV13 dc13 pm13 cd13 ct13 : Value}
    {f14 : Addr} {od14 an14 : Option Addr} {sl14 : Array (Option Value)} {oc14 kV14 dc14 pm14 cd14 ct14 : Value}
    {f15 : Addr} {od15 an15 : Option Addr} {sl15 : Array (Option Value)} {oc15 kV15 dc15 pm15 cd15 ct15 : Value}
    {f16 : Addr} {od16 an16 : Option Addr} {sl16 : Array (Option Value)} {oc16 kV16 dc16 pm16 cd16 ct16 : Value}
    {f17 : Addr} {od17 an17 : Option Addr} {sl17 : Array (Option Value)} {oc17 kV17 dc17 pm17 cd17 ct17 : Value}
    {f18 : Addr} {od18 an18 : Option Addr} {sl18 : Array (Option Value)} {oc18 kV18 dc18 pm18 cd18 ct18 : Value}
    {f19 : Addr} {od19 an19 : Option Addr} {sl19 : Array (Option Value)} {oc19 kV19 dc19 pm19 cd19 ct19 : Value}
    {f20 : Addr} {od20 an20 : Option Addr} {sl20 : Array (Option Value)} {oc20 kV20 dc20 pm20 cd20 ct20 : Value}
    {f21 : Addr} {od21 an21 : Option Addr} {sl21 : Array (Option Value)} {oc21 kV21 dc21 pm21 cd21 ct21 : Value}
    {f22 : Addr} {od22 an22 : Option Addr} {sl22 : Array (Option Value)} {oc22 kV22 dc22 pm22 cd22 ct22 : Value}
    {f23 : Addr} {od23 an23 : Option Addr} {sl23 : Array (Option Value)} {oc23 kV23 dc23 pm23 cd23 ct23 : Value}
    {f24 : Addr} {od24 an24 : Option Addr} {sl24 : Array (Option Value)} {oc24 kV24 dc24 pm24 cd24 ct24 : Value}
    {f25 : Addr} {od25 an25 : Option Addr} {sl25 : Array (Option Value)} {oc25 kV25 dc25 pm25 cd25 ct25 : Value}
    {f26 : Addr} {od26 an26 : Option Addr} {sl26 : Array (Option Value)} {oc26 kV26 dc26 pm26 cd26 ct26 : Value}
    {f27 : Addr} {od27 an27 : Option Addr} {sl27 : Array (Option Value)} {oc27 kV27 dc27 pm27 cd27 ct27 : Value}
    {f28 : Addr} {od28 an28 : Option Addr} {sl28 : Array (Option Value)} {oc28 kV28 dc28 pm28 cd28 ct28 : Value}
    {f29 : Addr} {od29 an29 : Option Addr} {sl29 : Array (Option Value)} {oc29 kV29 dc29 pm29 cd29 ct29 : Value}
    {f30 : Addr} {od30 an30 : Option Addr} {sl30 : Array (Option Value)} {oc30 kV30 dc30 pm30 cd30 ct30 : Value}
    {f31 : Addr} {od31 an31 : Option Addr} {sl31 : Array (Option Value)} {oc31 kV31 dc31 pm31 cd31 ct31 : Value}
    {f32 : Addr} {od32 an32 : Option Addr} {sl32 : Array (Option Value)} {oc32 kV32 dc32 pm32 cd32 ct32 : Value}
    {C_Board C_Game : Addr}
    {X_BadPlace : Addr}
    {X_BadBoard : Addr}
    {X_BadGame : Addr}
    {X_BadLine : Addr}
    {X_NoMove : Addr}
    {X_TooWide : Addr}
    {X_NoWord : Addr}
    {X_Over : Addr}
    {X_NothingBack : Addr}
    {X_PlayError : Addr}
    {t_LETTERS : Tok}
    {t_EMPTY : Tok}
    {t_HOLE : Tok}
    {A_SIDES : Addr} {tSIDES_0 tSIDES_1 : Tok} {ts_SIDES : Array (Option Value)} {n_SIDES : Nat}
    {t_MOST_SIDE : Tok}
    {A_SORTS : Addr} {tSORTS_0 tSORTS_1 tSORTS_2 : Tok} {ts_SORTS : Array (Option Value)} {n_SORTS : Nat}
    {A_AIMS : Addr} {tAIMS_0 tAIMS_1 tAIMS_2 : Tok} {ts_AIMS : Array (Option Value)} {n_AIMS : Nat}
    {A_END_WORDS : Addr} {tEND_WORDS_0 tEND_WORDS_1 : Tok} {ts_END_WORDS : Array (Option Value)} {n_END_WORDS : Nat}
    {A_STUCK_WORDS : Addr} {tSTUCK_WORDS_0 tSTUCK_WORDS_1 tSTUCK_WORDS_2 : Tok} {ts_STUCK_WORDS : Array (Option Value)} {n_STUCK_WORDS : Nat}
    {t_MOST_RULES : Tok}
    {t_MOST_PAIRS : Tok}
    {t_MOST_KINDS : Tok}
    (xa_BadPlace : PySem.W.nsIn K mainGlobals "BadPlace" = some (some (.ref X_BadPlace)))
    (xx_BadPlace : PySem.W.excIn K X_BadPlace [.type "ValueError", .type "Exception", .type "BaseException", .type "object"] "ValueError.__new__" = true)
    (xk_BadPlace : PySem.W.keepIn K (.ref X_BadPlace) = true)
    (xb_BadPlace : PySem.W.subIn K (.ref X_BadPlace) (.type "BaseException") = some true)
    (xt_BadPlace : PySem.W.typeIn K (.ref X_BadPlace) = some (.type "type"))
    (xeg_BadPlace : PySem.W.findIn K (.ref X_BadPlace) "__getattribute__" = some (some (.builtin "BaseException.__getattribute__")))
    (xek_BadPlace : PySem.W.findIn K (.ref X_BadPlace) "__getattr__" = some none)
    (xes_BadPlace : PySem.W.subIn K (.ref X_BadPlace) (.type "BaseException") = some true)
    (xed_BadPlace : PySem.W.hasDictIn K X_BadPlace = true)
    (xea_BadPlace : PySem.W.findIn K (.ref X_BadPlace) "__class__" = some (some (.builtin "object.__class__")))
    (xem_BadPlace : PySem.W.mroIn K X_BadPlace (.type "object") = some true)
    (kv_BadPlace : PySem.W.kitOne K (.ref X_BadPlace) (.type "ValueError") = some true)
    (ki_BadPlace_BadPlace : PySem.W.kitOne K (.ref X_BadPlace) (.ref X_BadPlace) = some true)
    (ki_BadPlace_BadBoard : PySem.W.kitOne K (.ref X_BadPlace) (.ref X_BadBoard) = some false)
    (ki_BadPlace_BadGame : PySem.W.kitOne K (.ref X_BadPlace) (.ref X_BadGame) = some false)
    (ki_BadPlace_BadLine : PySem.W.kitOne K (.ref X_BadPlace) (.ref X_BadLine) = some false)
    (ki_BadPlace_NoMove : PySem.W.kitOne K (.ref X_BadPlace) (.ref X_NoMove) = some false)
    (ki_BadPlace_TooWide : PySem.W.kitOne K (.ref X_BadPlace) (.ref X_TooWide) = some false)
    (ki_BadPlace_NoWord : PySem.W.kitOne K (.ref X_BadPlace) (.ref X_NoWord) = some false)
    (ki_BadPlace_Over : PySem.W.kitOne K (.ref X_BadPlace) (.ref X_Over) = some false)
    (ki_BadPlace_NothingBack : PySem.W.kitOne K (.ref X_BadPlace) (.ref X_NothingBack) = some false)
    (ki_BadPlace_PlayError : PySem.W.kitOne K (.ref X_BadPlace) (.ref X_PlayError) = some true)
    (cm_BadPlace_PlayError : PySem.W.exmOne K (.ref X_BadPlace) (.ref X_PlayError) = some true)
    (xa_BadBoard : PySem.W.nsIn K mainGlobals "BadBoard" = some (some (.ref X_BadBoard)))
    (xa_BadGame : PySem.W.nsIn K mainGlobals "BadGame" = some (some (.ref X_BadGame)))
    (xa_BadLine : PySem.W.nsIn K mainGlobals "BadLine" = some (some (.ref X_BadLine)))
    (xa_NoMove : PySem.W.nsIn K mainGlobals "NoMove" = some (some (.ref X_NoMove)))
    (xa_TooWide : PySem.W.nsIn K mainGlobals "TooWide" = some (some (.ref X_TooWide)))
    (xa_NoWord : PySem.W.nsIn K mainGlobals "NoWord" = some (some (.ref X_NoWord)))
    (xa_Over : PySem.W.nsIn K mainGlobals "Over" = some (some (.ref X_Over)))
    (xa_NothingBack : PySem.W.nsIn K mainGlobals "NothingBack" = some (some (.ref X_NothingBack)))
    (xa_PlayError : PySem.W.nsIn K mainGlobals "PlayError" = some (some (.ref X_PlayError)))
    (xen : PySem.W.specialIn K (.builtin "object.__class__") "__get__" = some (some (.builtin "getset_descriptor.__get__")))
    (xet : PySem.W.takesIn K (.builtin "object.__class__") = some true)
    (aC_Board : PySem.W.nsIn K mainGlobals "Board" = some (some (.ref C_Board)))
    (pg_Board : PySem.W.plainGet K C_Board Str.empty = true)
    (hd_Board : PySem.W.hasDictIn K C_Board = true)
    (po_Board : PySem.W.plainOver K C_Board = true)
    (sa_Board : PySem.W.findIn K (.ref C_Board) "__setattr__" = some (some (.builtin "object.__setattr__")))
    (mk_Board : PySem.W.makesIn K C_Board = true)
    (kc_Board : PySem.W.keepIn K (.ref C_Board) = true)
    (aC_Game : PySem.W.nsIn K mainGlobals "Game" = some (some (.ref C_Game)))
    (pg_Game : PySem.W.plainGet K C_Game Str.empty = true)
    (hd_Game : PySem.W.hasDictIn K C_Game = true)
    (po_Game : PySem.W.plainOver K C_Game = true)
    (sa_Game : PySem.W.findIn K (.ref C_Game) "__setattr__" = some (some (.builtin "object.__setattr__")))
    (mk_Game : PySem.W.makesIn K C_Game = true)
    (kc_Game : PySem.W.keepIn K (.ref C_Game) = true)
    (a0 : PySem.W.nsIn K mainGlobals "is_whole" = some (some (.ref f0)))
    (l0 : K.lookup f0 = some ⟨oc0, od0, .func (PySem.W.fnOf "is_whole" "is_whole" (defArgs s_is_whole) (defBody s_is_whole) (defScope s_is_whole) .none kV0 dc0 pm0 an0 cd0 ct0), sl0⟩) (c0 : PySem.W.codeIn K cd0 "is_whole" = true) (k0 : PySem.W.keepIn K (.ref f0) = true)
    (a1 : PySem.W.nsIn K mainGlobals "is_letter" = some (some (.ref f1)))
    (l1 : K.lookup f1 = some ⟨oc1, od1, .func (PySem.W.fnOf "is_letter" "is_letter" (defArgs s_is_letter) (defBody s_is_letter) (defScope s_is_letter) .none kV1 dc1 pm1 an1 cd1 ct1), sl1⟩) (c1 : PySem.W.codeIn K cd1 "is_letter" = true) (k1 : PySem.W.keepIn K (.ref f1) = true)
    (a2 : PySem.W.nsIn K mainGlobals "is_among" = some (some (.ref f2)))
    (l2 : K.lookup f2 = some ⟨oc2, od2, .func (PySem.W.fnOf "is_among" "is_among" (defArgs s_is_among) (defBody s_is_among) (defScope s_is_among) .none kV2 dc2 pm2 an2 cd2 ct2), sl2⟩) (c2 : PySem.W.codeIn K cd2 "is_among" = true) (k2 : PySem.W.keepIn K (.ref f2) = true)
    (a3 : PySem.W.nsIn K mainGlobals "kind_of" = some (some (.ref f3)))
    (l3 : K.lookup f3 = some ⟨oc3, od3, .func (PySem.W.fnOf "kind_of" "kind_of" (defArgs s_kind_of) (defBody s_kind_of) (defScope s_kind_of) .none kV3 dc3 pm3 an3 cd3 ct3), sl3⟩) (c3 : PySem.W.codeIn K cd3 "kind_of" = true) (k3 : PySem.W.keepIn K (.ref f3) = true)
    (a4 : PySem.W.nsIn K mainGlobals "shown" = some (some (.ref f4)))
    (l4 : K.lookup f4 = some ⟨oc4, od4, .func (PySem.W.fnOf "shown" "shown" (defArgs s_shown) (defBody s_shown) (defScope s_shown) .none kV4 dc4 pm4 an4 cd4 ct4), sl4⟩) (c4 : PySem.W.codeIn K cd4 "shown" = true) (k4 : PySem.W.keepIn K (.ref f4) = true)
    (a5 : PySem.W.nsIn K mainGlobals "need" = some (some (.ref f5)))
    (l5 : K.lookup f5 = some ⟨oc5, od5, .func (PySem.W.fnOf "need" "need" (defArgs s_need) (defBody s_need) (defScope s_need) .none kV5 dc5 pm5 an5 cd5 ct5), sl5⟩) (c5 : PySem.W.codeIn K cd5 "need" = true) (k5 : PySem.W.keepIn K (.ref f5) = true)
    (a6 : PySem.W.nsIn K mainGlobals "are_holes" = some (some (.ref f6)))
    (l6 : K.lookup f6 = some ⟨oc6, od6, .func (PySem.W.fnOf "are_holes" "are_holes" (defArgs s_are_holes) (defBody s_are_holes) (defScope s_are_holes) .none kV6 dc6 pm6 an6 cd6 ct6), sl6⟩) (c6 : PySem.W.codeIn K cd6 "are_holes" = true) (k6 : PySem.W.keepIn K (.ref f6) = true)
    (a7 : PySem.W.findIn K (.ref C_Board) "__init__" = some (some (.ref f7))) (i7 : PySem.W.isFn K (.ref f7) = true)
    (l7 : K.lookup f7 = some ⟨oc7, od7, .func (PySem.W.fnOf "__init__" "Board.__init__" (defArgs s_Board__init_) (defBody s_Board__init_) (defScope s_Board__init_) .none kV7 dc7 pm7 an7 cd7 ct7), sl7⟩) (c7 : PySem.W.codeIn K cd7 "Board.__init__" = true) (k7 : PySem.W.keepIn K (.ref f7) = true)
    (a8 : PySem.W.findIn K (.ref C_Board) "has" = some (some (.ref f8))) (i8 : PySem.W.isFn K (.ref f8) = true)
    (l8 : K.lookup f8 = some ⟨oc8, od8, .func (PySem.W.fnOf "has" "Board.has" (defArgs s_Board_has) (defBody s_Board_has) (defScope s_Board_has) .none kV8 dc8 pm8 an8 cd8 ct8), sl8⟩) (c8 : PySem.W.codeIn K cd8 "Board.has" = true) (k8 : PySem.W.keepIn K (.ref f8) = true)
    (a9 : PySem.W.nsIn K mainGlobals "is_sign" = some (some (.ref f9)))
    (l9 : K.lookup f9 = some ⟨oc9, od9, .func (PySem.W.fnOf "is_sign" "is_sign" (defArgs s_is_sign) (defBody s_is_sign) (defScope s_is_sign) .none kV9 dc9 pm9 an9 cd9 ct9), sl9⟩) (c9 : PySem.W.codeIn K cd9 "is_sign" = true) (k9 : PySem.W.keepIn K (.ref f9) = true)
    (a10 : PySem.W.nsIn K mainGlobals "is_place" = some (some (.ref f10)))
    (l10 : K.lookup f10 = some ⟨oc10, od10, .func (PySem.W.fnOf "is_place" "is_place" (defArgs s_is_place) (defBody s_is_place) (defScope s_is_place) .none kV10 dc10 pm10 an10 cd10 ct10), sl10⟩) (c10 : PySem.W.codeIn K cd10 "is_place" = true) (k10 : PySem.W.keepIn K (.ref f10) = true)
    (a11 : PySem.W.nsIn K mainGlobals "place_of" = some (some (.ref f11)))
    (l11 : K.lookup f11 = some ⟨oc11, od11, .func (PySem.W.fnOf "place_of" "place_of" (defArgs s_place_of) (defBody s_place_of) (defScope s_place_of) .none kV11 dc11 pm11 an11 cd11 ct11), sl11⟩) (c11 : PySem.W.codeIn K cd11 "place_of" = true) (k11 : PySem.W.keepIn K (.ref f11) = true)
    (a12 : PySem.W.nsIn K mainGlobals "far_of" = some (some (.ref f12)))
    (l12 : K.lookup f12 = some ⟨oc12, od12, .func (PySem.W.fnOf "far_of" "far_of" (defArgs s_far_of) (defBody s_far_of) (defScope s_far_of) .none kV12 dc12 pm12 an12 cd12 ct12), sl12⟩) (c12 : PySem.W.codeIn K cd12 "far_of" = true) (k12 : PySem.W.keepIn K (.ref f12) = true)
    (a13 : PySem.W.nsIn K mainGlobals "is_rule" = some (some (.ref f13)))
    (l13 : K.lookup f13 = some ⟨oc13, od13, .func (PySem.W.fnOf "is_rule" "is_rule" (defArgs s_is_rule) (defBody s_is_rule) (defScope s_is_rule) .none kV13 dc13 pm13 an13 cd13 ct13), sl13⟩) (c13 : PySem.W.codeIn K cd13 "is_rule" = true) (k13 : PySem.W.keepIn K (.ref f13) = true)
    (a14 : PySem.W.nsIn K mainGlobals "are_pairs" = some (some (.ref f14)))
    (l14 : K.lookup f14 = some ⟨oc14, od14, .func (PySem.W.fnOf "are_pairs" "are_pairs" (defArgs s_are_pairs) (defBody s_are_pairs) (defScope s_are_pairs) .none kV14 dc14 pm14 an14 cd14 ct14), sl14⟩) (c14 : PySem.W.codeIn K cd14 "are_pairs" = true) (k14 : PySem.W.keepIn K (.ref f14) = true)
    (a15 : PySem.W.nsIn K mainGlobals "is_turns" = some (some (.ref f15)))
    (l15 : K.lookup f15 = some ⟨oc15, od15, .func (PySem.W.fnOf "is_turns" "is_turns" (defArgs s_is_turns) (defBody s_is_turns) (defScope s_is_turns) .none kV15 dc15 pm15 an15 cd15 ct15), sl15⟩) (c15 : PySem.W.codeIn K cd15 "is_turns" = true) (k15 : PySem.W.keepIn K (.ref f15) = true)
    (a16 : PySem.W.nsIn K mainGlobals "is_ends" = some (some (.ref f16)))
    (l16 : K.lookup f16 = some ⟨oc16, od16, .func (PySem.W.fnOf "is_ends" "is_ends" (defArgs s_is_ends) (defBody s_is_ends) (defScope s_is_ends) .none kV16 dc16 pm16 an16 cd16 ct16), sl16⟩) (c16 : PySem.W.codeIn K cd16 "is_ends" = true) (k16 : PySem.W.keepIn K (.ref f16) = true)
    (a17 : PySem.W.nsIn K mainGlobals "are_kinds" = some (some (.ref f17)))
    (l17 : K.lookup f17 = some ⟨oc17, od17, .func (PySem.W.fnOf "are_kinds" "are_kinds" (defArgs s_are_kinds) (defBody s_are_kinds) (defScope s_are_kinds) .none kV17 dc17 pm17 an17 cd17 ct17), sl17⟩) (c17 : PySem.W.codeIn K cd17 "are_kinds" = true) (k17 : PySem.W.keepIn K (.ref f17) = true)
    (a18 : PySem.W.nsIn K mainGlobals "are_rules" = some (some (.ref f18)))
    (l18 : K.lookup f18 = some ⟨oc18, od18, .func (PySem.W.fnOf "are_rules" "are_rules" (defArgs s_are_rules) (defBody s_are_rules) (defScope s_are_rules) .none kV18 dc18 pm18 an18 cd18 ct18), sl18⟩) (c18 : PySem.W.codeIn K cd18 "are_rules" = true) (k18 : PySem.W.keepIn K (.ref f18) = true)
    (a19 : PySem.W.findIn K (.ref C_Game) "__init__" = some (some (.ref f19))) (i19 : PySem.W.isFn K (.ref f19) = true)
    (l19 : K.lookup f19 = some ⟨oc19, od19, .func (PySem.W.fnOf "__init__" "Game.__init__" (defArgs s_Game__init_) (defBody s_Game__init_) (defScope s_Game__init_) .none kV19 dc19 pm19 an19 cd19 ct19), sl19⟩) (c19 : PySem.W.codeIn K cd19 "Game.__init__" = true) (k19 : PySem.W.keepIn K (.ref f19) = true)
    (a20 : PySem.W.nsIn K mainGlobals "_law_cell_at" = some (some (.ref f20)))
    (l20 : K.lookup f20 = some ⟨oc20, od20, .func (PySem.W.fnOf "_law_cell_at" "_law_cell_at" (defArgs s_law_cell_at) (defBody s_law_cell_at) (defScope s_law_cell_at) .none kV20 dc20 pm20 an20 cd20 ct20), sl20⟩) (c20 : PySem.W.codeIn K cd20 "_law_cell_at" = true) (k20 : PySem.W.keepIn K (.ref f20) = true)
    (a21 : PySem.W.nsIn K mainGlobals "_law_mixed" = some (some (.ref f21)))
    (l21 : K.lookup f21 = some ⟨oc21, od21, .func (PySem.W.fnOf "_law_mixed" "_law_mixed" (defArgs s_law_mixed) (defBody s_law_mixed) (defScope s_law_mixed) .none kV21 dc21 pm21 an21 cd21 ct21), sl21⟩) (c21 : PySem.W.codeIn K cd21 "_law_mixed" = true) (k21 : PySem.W.keepIn K (.ref f21) = true)
    (a22 : PySem.W.nsIn K mainGlobals "_law_whole" = some (some (.ref f22)))
    (l22 : K.lookup f22 = some ⟨oc22, od22, .func (PySem.W.fnOf "_law_whole" "_law_whole" (defArgs s_law_whole) (defBody s_law_whole) (defScope s_law_whole) .none kV22 dc22 pm22 an22 cd22 ct22), sl22⟩) (c22 : PySem.W.codeIn K cd22 "_law_whole" = true) (k22 : PySem.W.keepIn K (.ref f22) = true)
    (a23 : PySem.W.nsIn K mainGlobals "_law_board" = some (some (.ref f23)))
    (l23 : K.lookup f23 = some ⟨oc23, od23, .func (PySem.W.fnOf "_law_board" "_law_board" (defArgs s_law_board) (defBody s_law_board) (defScope s_law_board) .none kV23 dc23 pm23 an23 cd23 ct23), sl23⟩) (c23 : PySem.W.codeIn K cd23 "_law_board" = true) (k23 : PySem.W.keepIn K (.ref f23) = true)
    (a24 : PySem.W.nsIn K mainGlobals "_law_kinds" = some (some (.ref f24)))
    (l24 : K.lookup f24 = some ⟨oc24, od24, .func (PySem.W.fnOf "_law_kinds" "_law_kinds" (defArgs s_law_kinds) (defBody s_law_kinds) (defScope s_law_kinds) .none kV24 dc24 pm24 an24 cd24 ct24), sl24⟩) (c24 : PySem.W.codeIn K cd24 "_law_kinds" = true) (k24 : PySem.W.keepIn K (.ref f24) = true)
    (a25 : PySem.W.nsIn K mainGlobals "_law_row" = some (some (.ref f25)))
    (l25 : K.lookup f25 = some ⟨oc25, od25, .func (PySem.W.fnOf "_law_row" "_law_row" (defArgs s_law_row) (defBody s_law_row) (defScope s_law_row) .none kV25 dc25 pm25 an25 cd25 ct25), sl25⟩) (c25 : PySem.W.codeIn K cd25 "_law_row" = true) (k25 : PySem.W.keepIn K (.ref f25) = true)
    (a26 : PySem.W.nsIn K mainGlobals "_law_lines" = some (some (.ref f26)))
    (l26 : K.lookup f26 = some ⟨oc26, od26, .func (PySem.W.fnOf "_law_lines" "_law_lines" (defArgs s_law_lines) (defBody s_law_lines) (defScope s_law_lines) .none kV26 dc26 pm26 an26 cd26 ct26), sl26⟩) (c26 : PySem.W.codeIn K cd26 "_law_lines" = true) (k26 : PySem.W.keepIn K (.ref f26) = true)
    (a27 : PySem.W.nsIn K mainGlobals "_law_line_changed" = some (some (.ref f27)))
    (l27 : K.lookup f27 = some ⟨oc27, od27, .func (PySem.W.fnOf "_law_line_changed" "_law_line_changed" (defArgs s_law_line_changed) (defBody s_law_line_changed) (defScope s_law_line_changed) .none kV27 dc27 pm27 an27 cd27 ct27), sl27⟩) (c27 : PySem.W.codeIn K cd27 "_law_line_changed" = true) (k27 : PySem.W.keepIn K (.ref f27) = true)
    (a28 : PySem.W.nsIn K mainGlobals "_law_changed" = some (some (.ref f28)))
    (l28 : K.lookup f28 = some ⟨oc28, od28, .func (PySem.W.fnOf "_law_changed" "_law_changed" (defArgs s_law_changed) (defBody s_law_changed) (defScope s_law_changed) .none kV28 dc28 pm28 an28 cd28 ct28), sl28⟩) (c28 : PySem.W.codeIn K cd28 "_law_changed" = true) (k28 : PySem.W.keepIn K (.ref f28) = true)
    (a29 : PySem.W.nsIn K mainGlobals "_law_read" = some (some (.ref f29)))
    (l29 : K.lookup f29 = some ⟨oc29, od29, .func (PySem.W.fnOf "_law_read" "_law_read" (defArgs s_law_read) (defBody s_law_read) (defScope s_law_read) .none kV29 dc29 pm29 an29 cd29 ct29), sl29⟩) (c29 : PySem.W.codeIn K cd29 "_law_read" = true) (k29 : PySem.W.keepIn K (.ref f29) = true)
    (a30 : PySem.W.nsIn K mainGlobals "_law_alone" = some (some (.ref f30)))
    (l30 : K.lookup f30 = some ⟨oc30, od30, .func (PySem.W.fnOf "_law_alone" "_law_alone" (defArgs s_law_alone) (defBody s_law_alone) (defScope s_law_alone) .none kV30 dc30 pm30 an30 cd30 ct30), sl30⟩) (c30 : PySem.W.codeIn K cd30 "_law_alone" = true) (k30 : PySem.W.keepIn K (.ref f30) = true)
    (a31 : PySem.W.nsIn K mainGlobals "_law_told" = some (some (.ref f31)))
    (l31 : K.lookup f31 = some ⟨oc31, od31, .func (PySem.W.fnOf "_law_told" "_law_told" (defArgs s_law_told) (defBody s_law_told) (defScope s_law_told) .none kV31 dc31 pm31 an31 cd31 ct31), sl31⟩) (c31 : PySem.W.codeIn K cd31 "_law_told" = true) (k31 : PySem.W.keepIn K (.ref f31) = true)
    (a32 : PySem.W.nsIn K mainGlobals "law" = some (some (.ref f32)))
    (l32 : K.lookup f32 = some ⟨oc32, od32, .func (PySem.W.fnOf "law" "law" (defArgs s_law) (defBody s_law) (defScope s_law) .none kV32 dc32 pm32 an32 cd32 ct32), sl32⟩) (c32 : PySem.W.codeIn K cd32 "law" = true) (k32 : PySem.W.keepIn K (.ref f32) = true)
    (na_Board_board : PySem.W.findIn K (.ref C_Board) "board" = some none)
    (na_Board_wide : PySem.W.findIn K (.ref C_Board) "wide" = some none)
    (na_Board_high : PySem.W.findIn K (.ref C_Board) "high" = some none)
    (na_Board_holes : PySem.W.findIn K (.ref C_Board) "holes" = some none)
    (na_Board_kinds : PySem.W.findIn K (.ref C_Board) "kinds" = some none)
    (na_Board_rules : PySem.W.findIn K (.ref C_Board) "rules" = some none)
    (na_Board_turns : PySem.W.findIn K (.ref C_Board) "turns" = some none)
    (na_Board_ends : PySem.W.findIn K (.ref C_Board) "ends" = some none)
    (na_Board_stuck : PySem.W.findIn K (.ref C_Board) "stuck" = some none)
    (na_Game_board : PySem.W.findIn K (.ref C_Game) "board" = some none)
    (na_Game_wide : PySem.W.findIn K (.ref C_Game) "wide" = some none)
    (na_Game_high : PySem.W.findIn K (.ref C_Game) "high" = some none)
    (na_Game_holes : PySem.W.findIn K (.ref C_Game) "holes" = some none)
    (na_Game_kinds : PySem.W.findIn K (.ref C_Game) "kinds" = some none)
    (na_Game_rules : PySem.W.findIn K (.ref C_Game) "rules" = some none)
    (na_Game_turns : PySem.W.findIn K (.ref C_Game) "turns" = some none)
    (na_Game_ends : PySem.W.findIn K (.ref C_Game) "ends" = some none)
    (na_Game_stuck : PySem.W.findIn K (.ref C_Game) "stuck" = some none)
    (z_bool : PySem.W.nsIn K mainGlobals "bool" = some none)
    (z_isinstance : PySem.W.nsIn K mainGlobals "isinstance" = some none)
    (z_int : PySem.W.nsIn K mainGlobals "int" = some none)
    (z_len : PySem.W.nsIn K mainGlobals "len" = some none)
    (z_str : PySem.W.nsIn K mainGlobals "str" = some none)
    (z_range : PySem.W.nsIn K mainGlobals "range" = some none)
    (z_reversed : PySem.W.nsIn K mainGlobals "reversed" = some none)
    (z_set : PySem.W.nsIn K mainGlobals "set" = some none)
    (z_list : PySem.W.nsIn K mainGlobals "list" = some none)
    (z_sorted : PySem.W.nsIn K mainGlobals "sorted" = some none)
    (z_tuple : PySem.W.nsIn K mainGlobals "tuple" = some none)
    (z_enumerate : PySem.W.nsIn K mainGlobals "enumerate" = some none)
    (z_ValueError : PySem.W.nsIn K mainGlobals "ValueError" = some none)
    (c_LETTERS : PySem.W.nsIn K mainGlobals "LETTERS" = some (some (.str "abcdefghijklmnopqrstuvwxyz" t_LETTERS)))
    (c_EMPTY : PySem.W.nsIn K mainGlobals "EMPTY" = some (some (.str "." t_EMPTY)))
    (c_HOLE : PySem.W.nsIn K mainGlobals "HOLE" = some (some (.str "#" t_HOLE)))
    (c_SIDES : PySem.W.nsIn K mainGlobals "SIDES" = some (some (.ref A_SIDES))) (l_SIDES : K.lookup A_SIDES = some ⟨.type "tuple", none, .seq #[.str ("first" : Str) tSIDES_0, .str ("second" : Str) tSIDES_1] n_SIDES, ts_SIDES⟩)
    (c_MOST_SIDE : PySem.W.nsIn K mainGlobals "MOST_SIDE" = some (some (.int 8 t_MOST_SIDE)))
    (c_SORTS : PySem.W.nsIn K mainGlobals "SORTS" = some (some (.ref A_SORTS))) (l_SORTS : K.lookup A_SORTS = some ⟨.type "tuple", none, .seq #[.str ("leap" : Str) tSORTS_0, .str ("slide" : Str) tSORTS_1, .str ("jump" : Str) tSORTS_2] n_SORTS, ts_SORTS⟩)
    (c_AIMS : PySem.W.nsIn K mainGlobals "AIMS" = some (some (.ref A_AIMS))) (l_AIMS : K.lookup A_AIMS = some ⟨.type "tuple", none, .seq #[.str ("go" : Str) tAIMS_0, .str ("hit" : Str) tAIMS_1, .str ("any" : Str) tAIMS_2] n_AIMS, ts_AIMS⟩)
    (c_END_WORDS : PySem.W.nsIn K mainGlobals "END_WORDS" = some (some (.ref A_END_WORDS))) (l_END_WORDS : K.lookup A_END_WORDS = some ⟨.type "tuple", none, .seq #[.str ("without" : Str) tEND_WORDS_0, .str ("home" : Str) tEND_WORDS_1] n_END_WORDS, ts_END_WORDS⟩)
    (c_STUCK_WORDS : PySem.W.nsIn K mainGlobals "STUCK_WORDS" = some (some (.ref A_STUCK_WORDS))) (l_STUCK_WORDS : K.lookup A_STUCK_WORDS = some ⟨.type "tuple", none, .seq #[.str ("lost" : Str) tSTUCK_WORDS_0, .str ("even" : Str) tSTUCK_WORDS_1, .str ("won" : Str) tSTUCK_WORDS_2] n_STUCK_WORDS, ts_STUCK_WORDS⟩)
    (c_MOST_RULES : PySem.W.nsIn K mainGlobals "MOST_RULES" = some (some (.int 24 t_MOST_RULES)))
    (c_MOST_PAIRS : PySem.W.nsIn K mainGlobals "MOST_PAIRS" = some (some (.int 6 t_MOST_PAIRS)))
    (c_MOST_KINDS : PySem.W.nsIn K mainGlobals "MOST_KINDS" = some (some (.int 6 t_MOST_KINDS)))
    (hden : ∀ ns : List Int, ns.length ≤ 63 → den_law [.scr ns] = some (.bl true)) :
    ∃ fd : FuncData, (∀ (s : Shared) (v : Value), BindsTo s fd ⟨[v], []⟩ [("_law_script", v)]) ∧ ∀ base : Heap, K.In base → base.Ns mainGlobals mg → FnOk l.prog w K mg base CX0 8 fa fd ["_law_script"] (spLaw K) := by
  have e := hfa.symm.trans (PySem.W.mg_of X G a32)
  cases e
  have F0 := fun_mk (st := s_is_whole) l0 c0 k0
  have b0 := F0.binds (ps := ["thing"]) fun _ _ _ _ _ _ us hl => match us, hl with | [_], _ => rfl
  have F1 := fun_mk (st := s_is_letter) l1 c1 k1
  have b1 := F1.binds (ps := ["thing"]) fun _ _ _ _ _ _ us hl => match us, hl with | [_], _ => rfl
  have F2 := fun_mk (st := s_is_among) l2 c2 k2
  have b2 := F2.binds (ps := ["thing", "least", "most"]) fun _ _ _ _ _ _ us hl => match us, hl with | [_, _, _], _ => rfl
  have F3 := fun_mk (st := s_kind_of) l3 c3 k3
  have b3 := F3.binds (ps := ["sign"]) fun _ _ _ _ _ _ us hl => match us, hl with | [_], _ => rfl
  have F4 := fun_mk (st := s_shown) l4 c4 k4
  have b4 := F4.binds (ps := ["game", "place"]) fun _ _ _ _ _ _ us hl => match us, hl with | [_, _], _ => rfl
  have F5 := fun_mk (st := s_need) l5 c5 k5
  have b5 := F5.binds (ps := ["good"]) fun _ _ _ _ _ _ us hl => match us, hl with | [_], _ => rfl
  have F6 := fun_mk (st := s_are_holes) l6 c6 k6
  have b6 := F6.binds (ps := ["things", "many"]) fun _ _ _ _ _ _ us hl => match us, hl with | [_, _], _ => rfl
  have F7 := fun_mk (st := s_Board__init_) l7 c7 k7
  have b7 := F7.binds (ps := ["self", "wide", "high", "holes"]) fun _ _ _ _ _ _ us hl => match us, hl with | [_, _, _, _], _ => rfl
  have F8 := fun_mk (st := s_Board_has) l8 c8 k8
  have b8 := F8.binds (ps := ["self", "square"]) fun _ _ _ _ _ _ us hl => match us, hl with | [_, _], _ => rfl
  have F9 := fun_mk (st := s_is_sign) l9 c9 k9
  have b9 := F9.binds (ps := ["game", "square", "sign"]) fun _ _ _ _ _ _ us hl => match us, hl with | [_, _, _], _ => rfl
  have F10 := fun_mk (st := s_is_place) l10 c10 k10
  have b10 := F10.binds (ps := ["game", "thing"]) fun _ _ _ _ _ _ us hl => match us, hl with | [_, _], _ => rfl
  have F11 := fun_mk (st := s_place_of) l11 c11 k11
  have b11 := F11.binds (ps := ["game", "lines"]) fun _ _ _ _ _ _ us hl => match us, hl with | [_, _], _ => rfl
  have F12 := fun_mk (st := s_far_of) l12 c12 k12
  have b12 := F12.binds (ps := ["sort"]) fun _ _ _ _ _ _ us hl => match us, hl with | [_], _ => rfl
  have F13 := fun_mk (st := s_is_rule) l13 c13 k13
  have b13 := F13.binds (ps := ["thing", "kinds"]) fun _ _ _ _ _ _ us hl => match us, hl with | [_, _], _ => rfl
  have F14 := fun_mk (st := s_are_pairs) l14 c14 k14
  have b14 := F14.binds (ps := ["thing"]) fun _ _ _ _ _ _ us hl => match us, hl with | [_], _ => rfl
  have F15 := fun_mk (st := s_is_turns) l15 c15 k15
  have b15 := F15.binds (ps := ["thing", "kinds"]) fun _ _ _ _ _ _ us hl => match us, hl with | [_, _], _ => rfl
  have F16 := fun_mk (st := s_is_ends) l16 c16 k16
  have b16 := F16.binds (ps := ["thing", "kinds"]) fun _ _ _ _ _ _ us hl => match us, hl with | [_, _], _ => rfl
  have F17 := fun_mk (st := s_are_kinds) l17 c17 k17
  have b17 := F17.binds (ps := ["thing"]) fun _ _ _ _ _ _ us hl => match us, hl with | [_], _ => rfl
  have F18 := fun_mk (st := s_are_rules) l18 c18 k18
  have b18 := F18.binds (ps := ["thing", "kinds"]) fun _ _ _ _ _ _ us hl => match us, hl with | [_, _], _ => rfl
  have F19 := fun_mk (st := s_Game__init_) l19 c19 k19
  have b19 := F19.binds (ps := ["self", "board", "kinds", "rules", "turns", "ends", "stuck"]) fun _ _ _ _ _ _ us hl => match us, hl with | [_, _, _, _, _, _, _], _ => rfl
  have F20 := fun_mk (st := s_law_cell_at) l20 c20 k20
  have b20 := F20.binds (ps := ["_law_script", "_law_k"]) fun _ _ _ _ _ _ us hl => match us, hl with | [_, _], _ => rfl
  have F21 := fun_mk (st := s_law_mixed) l21 c21 k21
  have b21 := F21.binds (ps := ["_law_cell", "_law_k"]) fun _ _ _ _ _ _ us hl => match us, hl with | [_, _], _ => rfl
  have F22 := fun_mk (st := s_law_whole) l22 c22 k22
  have b22 := F22.binds (ps := ["_law_thing"]) fun _ _ _ _ _ _ us hl => match us, hl with | [_], _ => rfl
  have F23 := fun_mk (st := s_law_board) l23 c23 k23
  have b23 := F23.binds (ps := ["_law_script"]) fun _ _ _ _ _ _ us hl => match us, hl with | [_], _ => rfl
  have F24 := fun_mk (st := s_law_kinds) l24 c24 k24
  have b24 := F24.binds (ps := ["_law_cell"]) fun _ _ _ _ _ _ us hl => match us, hl with | [_], _ => rfl
  have F25 := fun_mk (st := s_law_row) l25 c25 k25
  have b25 := F25.binds (ps := ["_law_script", "_law_game", "_law_start"]) fun _ _ _ _ _ _ us hl => match us, hl with | [_, _, _], _ => rfl
  have F26 := fun_mk (st := s_law_lines) l26 c26 k26
  have b26 := F26.binds (ps := ["_law_place", "_law_wide", "_law_high"]) fun _ _ _ _ _ _ us hl => match us, hl with | [_, _, _], _ => rfl
  have F27 := fun_mk (st := s_law_line_changed) l27 c27 k27
  have b27 := F27.binds (ps := ["_law_lines_here", "_law_cell", "_law_kinds_here"]) fun _ _ _ _ _ _ us hl => match us, hl with | [_, _, _], _ => rfl
  have F28 := fun_mk (st := s_law_changed) l28 c28 k28
  have b28 := F28.binds (ps := ["_law_lines_here", "_law_cell", "_law_kinds_here"]) fun _ _ _ _ _ _ us hl => match us, hl with | [_, _, _], _ => rfl
  have F29 := fun_mk (st := s_law_read) l29 c29 k29
  have b29 := F29.binds (ps := ["_law_lines_here", "_law_wide", "_law_high", "_law_holes", "_law_kinds_here"]) fun _ _ _ _ _ _ us hl => match us, hl with | [_, _, _, _, _], _ => rfl
  have F30 := fun_mk (st := s_law_alone) l30 c30 k30
  have b30 := F30.binds (ps := ["_law_e"]) fun _ _ _ _ _ _ us hl => match us, hl with | [_], _ => rfl
  have F31 := fun_mk (st := s_law_told) l31 c31 k31
  have b31 := F31.binds (ps := ["_law_game", "_law_lines_here"]) fun _ _ _ _ _ _ us hl => match us, hl with | [_, _], _ => rfl
  have F32 := fun_mk (st := s_law) l32 c32 k32
  have b32 := F32.binds (ps := ["_law_script"]) fun _ _ _ _ _ _ us hl => match us, hl with | [_], _ => rfl
  exact ⟨_, fun s v => .of_eq rfl, fun base _ _ => law_of (Γ := gam (K := K) (mg := mg) { X_BadPlace := X_BadPlace, gx_BadPlace := PySem.W.mg_of X G xa_BadPlace, ef_BadPlace := ⟨PySem.W.mg_of X G xa_BadPlace, xx_BadPlace, xk_BadPlace, xb_BadPlace, xt_BadPlace⟩, ec_BadPlace := ⟨xeg_BadPlace, xek_BadPlace, xes_BadPlace, xed_BadPlace, xea_BadPlace, xen, xet, xem_BadPlace⟩, kv_BadPlace := kv_BadPlace, ki_BadPlace_BadPlace := ki_BadPlace_BadPlace, ki_BadPlace_BadBoard := ki_BadPlace_BadBoard, ki_BadPlace_BadGame := ki_BadPlace_BadGame, ki_BadPlace_BadLine := ki_BadPlace_BadLine, ki_BadPlace_NoMove := ki_BadPlace_NoMove, ki_BadPlace_TooWide := ki_BadPlace_TooWide, ki_BadPlace_NoWord := ki_BadPlace_NoWord, ki_BadPlace_Over := ki_BadPlace_Over, ki_BadPlace_NothingBack := ki_BadPlace_NothingBack, ki_BadPlace_PlayError := ki_BadPlace_PlayError, cm_BadPlace_PlayError := cm_BadPlace_PlayError, X_BadBoard := X_BadBoard, gx_BadBoard := PySem.W.mg_of X G xa_BadBoard, X_BadGame := X_BadGame, gx_BadGame := PySem.W.mg_of X G xa_BadGame, X_BadLine := X_BadLine, gx_BadLine := PySem.W.mg_of X G xa_BadLine, X_NoMove := X_NoMove, gx_NoMove := PySem.W.mg_of X G xa_NoMove, X_TooWide := X_TooWide, gx_TooWide := PySem.W.mg_of X G xa_TooWide, X_NoWord := X_NoWord, gx_NoWord := PySem.W.mg_of X G xa_NoWord, X_Over := X_Over, gx_Over := PySem.W.mg_of X G xa_Over, X_NothingBack := X_NothingBack, gx_NothingBack := PySem.W.mg_of X G xa_NothingBack, X_PlayError := X_PlayError, gx_PlayError := PySem.W.mg_of X G xa_PlayError, d_is_whole := ⟨_, _, F0, PySem.W.mg_of X G a0, b0⟩, d_is_letter := ⟨_, _, F1, PySem.W.mg_of X G a1, b1⟩, d_is_among := ⟨_, _, F2, PySem.W.mg_of X G a2, b2⟩, d_kind_of := ⟨_, _, F3, PySem.W.mg_of X G a3, b3⟩, d_shown := ⟨_, _, F4, PySem.W.mg_of X G a4, b4⟩, d_need := ⟨_, _, F5, PySem.W.mg_of X G a5, b5⟩, d_are_holes := ⟨_, _, F6, PySem.W.mg_of X G a6, b6⟩, d_Board__init_ := ⟨_, _, F7, b7⟩, d_Board_has := ⟨_, _, F8, b8⟩, d_is_sign := ⟨_, _, F9, PySem.W.mg_of X G a9, b9⟩, d_is_place := ⟨_, _, F10, PySem.W.mg_of X G a10, b10⟩, d_place_of := ⟨_, _, F11, PySem.W.mg_of X G a11, b11⟩, d_far_of := ⟨_, _, F12, PySem.W.mg_of X G a12, b12⟩, d_is_rule := ⟨_, _, F13, PySem.W.mg_of X G a13, b13⟩, d_are_pairs := ⟨_, _, F14, PySem.W.mg_of X G a14, b14⟩, d_is_turns := ⟨_, _, F15, PySem.W.mg_of X G a15, b15⟩, d_is_ends := ⟨_, _, F16, PySem.W.mg_of X G a16, b16⟩, d_are_kinds := ⟨_, _, F17, PySem.W.mg_of X G a17, b17⟩, d_are_rules := ⟨_, _, F18, PySem.W.mg_of X G a18, b18⟩, d_Game__init_ := ⟨_, _, F19, b19⟩, d_law_cell_at := ⟨_, _, F20, PySem.W.mg_of X G a20, b20⟩, d_law_mixed := ⟨_, _, F21, PySem.W.mg_of X G a21, b21⟩, d_law_whole := ⟨_, _, F22, PySem.W.mg_of X G a22, b22⟩, d_law_board := ⟨_, _, F23, PySem.W.mg_of X G a23, b23⟩, d_law_kinds := ⟨_, _, F24, PySem.W.mg_of X G a24, b24⟩, d_law_row := ⟨_, _, F25, PySem.W.mg_of X G a25, b25⟩, d_law_lines := ⟨_, _, F26, PySem.W.mg_of X G a26, b26⟩, d_law_line_changed := ⟨_, _, F27, PySem.W.mg_of X G a27, b27⟩, d_law_changed := ⟨_, _, F28, PySem.W.mg_of X G a28, b28⟩, d_law_read := ⟨_, _, F29, PySem.W.mg_of X G a29, b29⟩, d_law_alone := ⟨_, _, F30, PySem.W.mg_of X G a30, b30⟩, d_law_told := ⟨_, _, F31, PySem.W.mg_of X G a31, b31⟩, d_law := ⟨_, _, F32, PySem.W.mg_of X G a32, b32⟩, z_bool := PySem.W.mg_none_of X G z_bool, z_isinstance := PySem.W.mg_none_of X G z_isinstance, z_int := PySem.W.mg_none_of X G z_int, z_len := PySem.W.mg_none_of X G z_len, z_str := PySem.W.mg_none_of X G z_str, z_range := PySem.W.mg_none_of X G z_range, z_reversed := PySem.W.mg_none_of X G z_reversed, z_set := PySem.W.mg_none_of X G z_set, z_list := PySem.W.mg_none_of X G z_list, z_sorted := PySem.W.mg_none_of X G z_sorted, z_tuple := PySem.W.mg_none_of X G z_tuple, z_enumerate := PySem.W.mg_none_of X G z_enumerate, z_ValueError := PySem.W.mg_none_of X G z_ValueError, C_Board := C_Board, g_Board := PySem.W.mg_of X G aC_Board, cl_Board := ⟨pg_Board, hd_Board, po_Board, sa_Board⟩, mk_Board := ⟨mk_Board, a7, i7, kc_Board⟩, me_Board_has := ⟨a8, i8, k8⟩, na_Board_board := na_Board_board, na_Board_wide := na_Board_wide, na_Board_high := na_Board_high, na_Board_holes := na_Board_holes, na_Board_kinds := na_Board_kinds, na_Board_rules := na_Board_rules, na_Board_turns := na_Board_turns, na_Board_ends := na_Board_ends, na_Board_stuck := na_Board_stuck, C_Game := C_Game, g_Game := PySem.W.mg_of X G aC_Game, cl_Game := ⟨pg_Game, hd_Game, po_Game, sa_Game⟩, mk_Game := ⟨mk_Game, a19, i19, kc_Game⟩, na_Game_board := na_Game_board, na_Game_wide := na_Game_wide, na_Game_high := na_Game_high, na_Game_holes := na_Game_holes, na_Game_kinds := na_Game_kinds, na_Game_rules := na_Game_rules, na_Game_turns := na_Game_turns, na_Game_ends := na_Game_ends, na_Game_stuck := na_Game_stuck, t_LETTERS := _, c_LETTERS := PySem.W.mg_of X G c_LETTERS, t_EMPTY := _, c_EMPTY := PySem.W.mg_of X G c_EMPTY, t_HOLE := _, c_HOLE := PySem.W.mg_of X G c_HOLE, a_SIDES := A_SIDES, c_SIDES := PySem.W.mg_of X G c_SIDES, r_SIDES := fun Γ => ktup_rep (ws := [.str ("first" : Str), .str ("second" : Str)]) l_SIDES rfl rfl (show (2 : Nat) ≤ sizeLine from by decide) (.cons ⟨_, rfl⟩ (.cons ⟨_, rfl⟩ .nil)) (by decide) (fun S => ⟨_, _, rfl, ⟨rfl, by decide +kernel⟩, ⟨_, _, rfl, ⟨rfl, by decide +kernel⟩, rfl⟩⟩), k_SIDES := ⟨_, l_SIDES, rfl, rfl⟩, t_MOST_SIDE := _, c_MOST_SIDE := PySem.W.mg_of X G c_MOST_SIDE, a_SORTS := A_SORTS, c_SORTS := PySem.W.mg_of X G c_SORTS, r_SORTS := fun Γ => ktup_rep (ws := [.str ("leap" : Str), .str ("slide" : Str), .str ("jump" : Str)]) l_SORTS rfl rfl (show (3 : Nat) ≤ sizeLine from by decide) (.cons ⟨_, rfl⟩ (.cons ⟨_, rfl⟩ (.cons ⟨_, rfl⟩ .nil))) (by decide) (fun S => ⟨_, _, rfl, ⟨rfl, by decide +kernel⟩, ⟨_, _, rfl, ⟨rfl, by decide +kernel⟩, ⟨_, _, rfl, ⟨rfl, by decide +kernel⟩, rfl⟩⟩⟩), a_AIMS := A_AIMS, c_AIMS := PySem.W.mg_of X G c_AIMS, r_AIMS := fun Γ => ktup_rep (ws := [.str ("go" : Str), .str ("hit" : Str), .str ("any" : Str)]) l_AIMS rfl rfl (show (3 : Nat) ≤ sizeLine from by decide) (.cons ⟨_, rfl⟩ (.cons ⟨_, rfl⟩ (.cons ⟨_, rfl⟩ .nil))) (by decide) (fun S => ⟨_, _, rfl, ⟨rfl, by decide +kernel⟩, ⟨_, _, rfl, ⟨rfl, by decide +kernel⟩, ⟨_, _, rfl, ⟨rfl, by decide +kernel⟩, rfl⟩⟩⟩), a_END_WORDS := A_END_WORDS, c_END_WORDS := PySem.W.mg_of X G c_END_WORDS, r_END_WORDS := fun Γ => ktup_rep (ws := [.str ("without" : Str), .str ("home" : Str)]) l_END_WORDS rfl rfl (show (2 : Nat) ≤ sizeLine from by decide) (.cons ⟨_, rfl⟩ (.cons ⟨_, rfl⟩ .nil)) (by decide) (fun S => ⟨_, _, rfl, ⟨rfl, by decide +kernel⟩, ⟨_, _, rfl, ⟨rfl, by decide +kernel⟩, rfl⟩⟩), a_STUCK_WORDS := A_STUCK_WORDS, c_STUCK_WORDS := PySem.W.mg_of X G c_STUCK_WORDS, r_STUCK_WORDS := fun Γ => ktup_rep (ws := [.str ("lost" : Str), .str ("even" : Str), .str ("won" : Str)]) l_STUCK_WORDS rfl rfl (show (3 : Nat) ≤ sizeLine from by decide) (.cons ⟨_, rfl⟩ (.cons ⟨_, rfl⟩ (.cons ⟨_, rfl⟩ .nil))) (by decide) (fun S => ⟨_, _, rfl, ⟨rfl, by decide +kernel⟩, ⟨_, _, rfl, ⟨rfl, by decide +kernel⟩, ⟨_, _, rfl, ⟨rfl, by decide +kernel⟩, rfl⟩⟩⟩), t_MOST_RULES := _, c_MOST_RULES := PySem.W.mg_of X G c_MOST_RULES, t_MOST_PAIRS := _, c_MOST_PAIRS := PySem.W.mg_of X G c_MOST_PAIRS, t_MOST_KINDS := _, c_MOST_KINDS := PySem.W.mg_of X G c_MOST_KINDS }) (.inl rfl) hden (ok_law { X_BadPlace := X_BadPlace, gx_BadPlace := PySem.W.mg_of X G xa_BadPlace, ef_BadPlace := ⟨PySem.W.mg_of X G xa_BadPlace, xx_BadPlace, xk_BadPlace, xb_BadPlace, xt_BadPlace⟩, ec_BadPlace := ⟨xeg_BadPlace, xek_BadPlace, xes_BadPlace, xed_BadPlace, xea_BadPlace, xen, xet, xem_BadPlace⟩, kv_BadPlace := kv_BadPlace, ki_BadPlace_BadPlace := ki_BadPlace_BadPlace, ki_BadPlace_BadBoard := ki_BadPlace_BadBoard, ki_BadPlace_BadGame := ki_BadPlace_BadGame, ki_BadPlace_BadLine := ki_BadPlace_BadLine, ki_BadPlace_NoMove := ki_BadPlace_NoMove, ki_BadPlace_TooWide := ki_BadPlace_TooWide, ki_BadPlace_NoWord := ki_BadPlace_NoWord, ki_BadPlace_Over := ki_BadPlace_Over, ki_BadPlace_NothingBack := ki_BadPlace_NothingBack, ki_BadPlace_PlayError := ki_BadPlace_PlayError, cm_BadPlace_PlayError := cm_BadPlace_PlayError, X_BadBoard := X_BadBoard, gx_BadBoard := PySem.W.mg_of X G xa_BadBoard, X_BadGame := X_BadGame, gx_BadGame := PySem.W.mg_of X G xa_BadGame, X_BadLine := X_BadLine, gx_BadLine := PySem.W.mg_of X G xa_BadLine, X_NoMove := X_NoMove, gx_NoMove := PySem.W.mg_of X G xa_NoMove, X_TooWide := X_TooWide, gx_TooWide := PySem.W.mg_of X G xa_TooWide, X_NoWord := X_NoWord, gx_NoWord := PySem.W.mg_of X G xa_NoWord, X_Over := X_Over, gx_Over := PySem.W.mg_of X G xa_Over, X_NothingBack := X_NothingBack, gx_NothingBack := PySem.W.mg_of X G xa_NothingBack, X_PlayError := X_PlayError, gx_PlayError := PySem.W.mg_of X G xa_PlayError, d_is_whole := ⟨_, _, F0, PySem.W.mg_of X G a0, b0⟩, d_is_letter := ⟨_, _, F1, PySem.W.mg_of X G a1, b1⟩, d_is_among := ⟨_, _, F2, PySem.W.mg_of X G a2, b2⟩, d_kind_of := ⟨_, _, F3, PySem.W.mg_of X G a3, b3⟩, d_shown := ⟨_, _, F4, PySem.W.mg_of X G a4, b4⟩, d_need := ⟨_, _, F5, PySem.W.mg_of X G a5, b5⟩, d_are_holes := ⟨_, _, F6, PySem.W.mg_of X G a6, b6⟩, d_Board__init_ := ⟨_, _, F7, b7⟩, d_Board_has := ⟨_, _, F8, b8⟩, d_is_sign := ⟨_, _, F9, PySem.W.mg_of X G a9, b9⟩, d_is_place := ⟨_, _, F10, PySem.W.mg_of X G a10, b10⟩, d_place_of := ⟨_, _, F11, PySem.W.mg_of X G a11, b11⟩, d_far_of := ⟨_, _, F12, PySem.W.mg_of X G a12, b12⟩, d_is_rule := ⟨_, _, F13, PySem.W.mg_of X G a13, b13⟩, d_are_pairs := ⟨_, _, F14, PySem.W.mg_of X G a14, b14⟩, d_is_turns := ⟨_, _, F15, PySem.W.mg_of X G a15, b15⟩, d_is_ends := ⟨_, _, F16, PySem.W.mg_of X G a16, b16⟩, d_are_kinds := ⟨_, _, F17, PySem.W.mg_of X G a17, b17⟩, d_are_rules := ⟨_, _, F18, PySem.W.mg_of X G a18, b18⟩, d_Game__init_ := ⟨_, _, F19, b19⟩, d_law_cell_at := ⟨_, _, F20, PySem.W.mg_of X G a20, b20⟩, d_law_mixed := ⟨_, _, F21, PySem.W.mg_of X G a21, b21⟩, d_law_whole := ⟨_, _, F22, PySem.W.mg_of X G a22, b22⟩, d_law_board := ⟨_, _, F23, PySem.W.mg_of X G a23, b23⟩, d_law_kinds := ⟨_, _, F24, PySem.W.mg_of X G a24, b24⟩, d_law_row := ⟨_, _, F25, PySem.W.mg_of X G a25, b25⟩, d_law_lines := ⟨_, _, F26, PySem.W.mg_of X G a26, b26⟩, d_law_line_changed := ⟨_, _, F27, PySem.W.mg_of X G a27, b27⟩, d_law_changed := ⟨_, _, F28, PySem.W.mg_of X G a28, b28⟩, d_law_read := ⟨_, _, F29, PySem.W.mg_of X G a29, b29⟩, d_law_alone := ⟨_, _, F30, PySem.W.mg_of X G a30, b30⟩, d_law_told := ⟨_, _, F31, PySem.W.mg_of X G a31, b31⟩, d_law := ⟨_, _, F32, PySem.W.mg_of X G a32, b32⟩, z_bool := PySem.W.mg_none_of X G z_bool, z_isinstance := PySem.W.mg_none_of X G z_isinstance, z_int := PySem.W.mg_none_of X G z_int, z_len := PySem.W.mg_none_of X G z_len, z_str := PySem.W.mg_none_of X G z_str, z_range := PySem.W.mg_none_of X G z_range, z_reversed := PySem.W.mg_none_of X G z_reversed, z_set := PySem.W.mg_none_of X G z_set, z_list := PySem.W.mg_none_of X G z_list, z_sorted := PySem.W.mg_none_of X G z_sorted, z_tuple := PySem.W.mg_none_of X G z_tuple, z_enumerate := PySem.W.mg_none_of X G z_enumerate, z_ValueError := PySem.W.mg_none_of X G z_ValueError, C_Board := C_Board, g_Board := PySem.W.mg_of X G aC_Board, cl_Board := ⟨pg_Board, hd_Board, po_Board, sa_Board⟩, mk_Board := ⟨mk_Board, a7, i7, kc_Board⟩, me_Board_has := ⟨a8, i8, k8⟩, na_Board_board := na_Board_board, na_Board_wide := na_Board_wide, na_Board_high := na_Board_high, na_Board_holes := na_Board_holes, na_Board_kinds := na_Board_kinds, na_Board_rules := na_Board_rules, na_Board_turns := na_Board_turns, na_Board_ends := na_Board_ends, na_Board_stuck := na_Board_stuck, C_Game := C_Game, g_Game := PySem.W.mg_of X G aC_Game, cl_Game := ⟨pg_Game, hd_Game, po_Game, sa_Game⟩, mk_Game := ⟨mk_Game, a19, i19, kc_Game⟩, na_Game_board := na_Game_board, na_Game_wide := na_Game_wide, na_Game_high := na_Game_high, na_Game_holes := na_Game_holes, na_Game_kinds := na_Game_kinds, na_Game_rules := na_Game_rules, na_Game_turns := na_Game_turns, na_Game_ends := na_Game_ends, na_Game_stuck := na_Game_stuck, t_LETTERS := _, c_LETTERS := PySem.W.mg_of X G c_LETTERS, t_EMPTY := _, c_EMPTY := PySem.W.mg_of X G c_EMPTY, t_HOLE := _, c_HOLE := PySem.W.mg_of X G c_HOLE, a_SIDES := A_SIDES, c_SIDES := PySem.W.mg_of X G c_SIDES, r_SIDES := fun Γ => ktup_rep (ws := [.str ("first" : Str), .str ("second" : Str)]) l_SIDES rfl rfl (show (2 : Nat) ≤ sizeLine from by decide) (.cons ⟨_, rfl⟩ (.cons ⟨_, rfl⟩ .nil)) (by decide) (fun S => ⟨_, _, rfl, ⟨rfl, by decide +kernel⟩, ⟨_, _, rfl, ⟨rfl, by decide +kernel⟩, rfl⟩⟩), k_SIDES := ⟨_, l_SIDES, rfl, rfl⟩, t_MOST_SIDE := _, c_MOST_SIDE := PySem.W.mg_of X G c_MOST_SIDE, a_SORTS := A_SORTS, c_SORTS := PySem.W.mg_of X G c_SORTS, r_SORTS := fun Γ => ktup_rep (ws := [.str ("leap" : Str), .str ("slide" : Str), .str ("jump" : Str)]) l_SORTS rfl rfl (show (3 : Nat) ≤ sizeLine from by decide) (.cons ⟨_, rfl⟩ (.cons ⟨_, rfl⟩ (.cons ⟨_, rfl⟩ .nil))) (by decide) (fun S => ⟨_, _, rfl, ⟨rfl, by decide +kernel⟩, ⟨_, _, rfl, ⟨rfl, by decide +kernel⟩, ⟨_, _, rfl, ⟨rfl, by decide +kernel⟩, rfl⟩⟩⟩), a_AIMS := A_AIMS, c_AIMS := PySem.W.mg_of X G c_AIMS, r_AIMS := fun Γ => ktup_rep (ws := [.str ("go" : Str), .str ("hit" : Str), .str ("any" : Str)]) l_AIMS rfl rfl (show (3 : Nat) ≤ sizeLine from by decide) (.cons ⟨_, rfl⟩ (.cons ⟨_, rfl⟩ (.cons ⟨_, rfl⟩ .nil))) (by decide) (fun S => ⟨_, _, rfl, ⟨rfl, by decide +kernel⟩, ⟨_, _, rfl, ⟨rfl, by decide +kernel⟩, ⟨_, _, rfl, ⟨rfl, by decide +kernel⟩, rfl⟩⟩⟩), a_END_WORDS := A_END_WORDS, c_END_WORDS := PySem.W.mg_of X G c_END_WORDS, r_END_WORDS := fun Γ => ktup_rep (ws := [.str ("without" : Str), .str ("home" : Str)]) l_END_WORDS rfl rfl (show (2 : Nat) ≤ sizeLine from by decide) (.cons ⟨_, rfl⟩ (.cons ⟨_, rfl⟩ .nil)) (by decide) (fun S => ⟨_, _, rfl, ⟨rfl, by decide +kernel⟩, ⟨_, _, rfl, ⟨rfl, by decide +kernel⟩, rfl⟩⟩), a_STUCK_WORDS := A_STUCK_WORDS, c_STUCK_WORDS := PySem.W.mg_of X G c_STUCK_WORDS, r_STUCK_WORDS := fun Γ => ktup_rep (ws := [.str ("lost" : Str), .str ("even" : Str), .str ("won" : Str)]) l_STUCK_WORDS rfl rfl (show (3 : Nat) ≤ sizeLine from by decide) (.cons ⟨_, rfl⟩ (.cons ⟨_, rfl⟩ (.cons ⟨_, rfl⟩ .nil))) (by decide) (fun S => ⟨_, _, rfl, ⟨rfl, by decide +kernel⟩, ⟨_, _, rfl, ⟨rfl, by decide +kernel⟩, ⟨_, _, rfl, ⟨rfl, by decide +kernel⟩, rfl⟩⟩⟩), t_MOST_RULES := _, c_MOST_RULES := PySem.W.mg_of X G c_MOST_RULES, t_MOST_PAIRS := _, c_MOST_PAIRS := PySem.W.mg_of X G c_MOST_PAIRS, t_MOST_KINDS := _, c_MOST_KINDS := PySem.W.mg_of X G c_MOST_KINDS })⟩
end Pr
open PySem PySem.W PyProof.Rows
set_option maxHeartbeats 0 in
set_option maxRecDepth 100000 in
theorem PySem.Challenge.cw_playboard_k11_shown_and_read_holds : PySem.Challenge.rw_playboard_k11_shown_and_read.Holds := by
  w_on; o_law; k_head; (case hw => w_witness2)
  k_fill
  refine L2.walk_ofK (l := PySem.Challenge.rw_playboard_k11_shown_and_read) (n := 63) (k := 8) (x := "_law_script") (CX := L2.CX0) (sp := Dl.spLaw) rfl (by decide) rfl ⟨rfl, by decide, by decide⟩ (fun w h Y => PySem.W.kIn_of Y) ?F (fun _ _ a ns hl _ hS => ⟨a, ns, rfl, hS, hl, fun _ => rfl⟩) (fun _ _ _ _ h => h)
  case F =>
    intro w mg fa h KX G hmg
    refine' Pr.all_mk KX G hmg ?xa_BadPlace ?xx_BadPlace ?xk_BadPlace ?xb_BadPlace ?xt_BadPlace ?xeg_BadPlace ?xek_BadPlace ?xes_BadPlace ?xed_BadPlace ?xea_BadPlace ?xem_BadPlace ?kv_BadPlace ?ki_BadPlace_BadPlace ?ki_BadPlace_BadBoard ?ki_BadPlace_BadGame ?ki_BadPlace_BadLine ?ki_BadPlace_NoMove ?ki_BadPlace_TooWide ?ki_BadPlace_NoWord ?ki_BadPlace_Over ?ki_BadPlace_NothingBack ?ki_BadPlace_PlayError ?cm_BadPlace_PlayError ?xa_BadBoard ?xa_BadGame ?xa_BadLine ?xa_NoMove ?xa_TooWide ?xa_NoWord ?xa_Over ?xa_NothingBack ?xa_PlayError ?xen ?xet ?aC_Board ?pg_Board ?hd_Board ?po_Board ?sa_Board ?mk_Board ?kc_Board ?aC_Game ?pg_Game ?hd_Game ?po_Game ?sa_Game ?mk_Game ?kc_Game ?a0 ?l0 ?c0 ?k0 ?a1 ?l1 ?c1 ?k1 ?a2 ?l2 ?c2 ?k2 ?a3 ?l3 ?c3 ?k3 ?a4 ?l4 ?c4 ?k4 ?a5 ?l5 ?c5 ?k5 ?a6 ?l6 ?c6 ?k6 ?a7 ?i7 ?l7 ?c7 ?k7 ?a8 ?i8 ?l8 ?c8 ?k8 ?a9 ?l9 ?c9 ?k9 ?a10 ?l10 ?c10 ?k10 ?a11 ?l11 ?c11 ?k11 ?a12 ?l12 ?c12 ?k12 ?a13 ?l13 ?c13 ?k13 ?a14 ?l14 ?c14 ?k14 ?a15 ?l15 ?c15 ?k15 ?a16 ?l16 ?c16 ?k16 ?a17 ?l17 ?c17 ?k17 ?a18 ?l18 ?c18 ?k18 ?a19 ?i19 ?l19 ?c19 ?k19 ?a20 ?l20 ?c20 ?k20 ?a21 ?l21 ?c21 ?k21 ?a22 ?l22 ?c22 ?k22 ?a23 ?l23 ?c23 ?k23 ?a24 ?l24 ?c24 ?k24 ?a25 ?l25 ?c25 ?k25 ?a26 ?l26 ?c26 ?k26 ?a27 ?l27 ?c27 ?k27 ?a28 ?l28 ?c28 ?k28 ?a29 ?l29 ?c29 ?k29 ?a30 ?l30 ?c30 ?k30 ?a31 ?l31 ?c31 ?k31 ?a32 ?l32 ?c32 ?k32 ?na_Board_board ?na_Board_wide ?na_Board_high ?na_Board_holes ?na_Board_kinds ?na_Board_rules ?na_Board_turns ?na_Board_ends ?na_Board_stuck ?na_Game_board ?na_Game_wide ?na_Game_high ?na_Game_holes ?na_Game_kinds ?na_Game_rules ?na_Game_turns ?na_Game_ends ?na_Game_stuck ?z_bool ?z_isinstance ?z_int ?z_len ?z_str ?z_range ?z_reversed ?z_set ?z_list ?z_sorted ?z_tuple ?z_enumerate ?z_ValueError ?c_LETTERS ?c_EMPTY ?c_HOLE ?c_SIDES ?l_SIDES ?c_MOST_SIDE ?c_SORTS ?l_SORTS ?c_AIMS ?l_AIMS ?c_END_WORDS ?l_END_WORDS ?c_STUCK_WORDS ?l_STUCK_WORDS ?c_MOST_RULES ?c_MOST_PAIRS ?c_MOST_KINDS Pr.law_true
    (case xa_BadPlace => k_is)
    (case xa_BadBoard => k_is)
    (case xa_BadGame => k_is)
    (case xa_BadLine => k_is)
    (case xa_NoMove => k_is)
    (case xa_TooWide => k_is)
    (case xa_NoWord => k_is)
    (case xa_Over => k_is)
    (case xa_NothingBack => k_is)
    (case xa_PlayError => k_is)
    (case aC_Board => k_is)
    (case aC_Game => k_is)
    (case xx_BadPlace => k_exc)
    (case xk_BadPlace => k_is)
    (case xb_BadPlace => k_is)
    (case xt_BadPlace => k_is)
    (case xeg_BadPlace => k_is)
    (case xek_BadPlace => k_is)
    (case xes_BadPlace => k_is)
    (case xed_BadPlace => k_is)
    (case xea_BadPlace => k_is)
    (case xem_BadPlace => k_is)
    (case kv_BadPlace => first | k_is | (refine Pr.kit_typ (by decide +kernel) ?_; k_is))
    (case ki_BadPlace_BadPlace => first | k_is | (refine Pr.kit_ref ?_ ?_ ?_ ?_ <;> k_is))
    (case ki_BadPlace_BadBoard => first | k_is | (refine Pr.kit_ref ?_ ?_ ?_ ?_ <;> k_is))
    (case ki_BadPlace_BadGame => first | k_is | (refine Pr.kit_ref ?_ ?_ ?_ ?_ <;> k_is))
    (case ki_BadPlace_BadLine => first | k_is | (refine Pr.kit_ref ?_ ?_ ?_ ?_ <;> k_is))
    (case ki_BadPlace_NoMove => first | k_is | (refine Pr.kit_ref ?_ ?_ ?_ ?_ <;> k_is))
    (case ki_BadPlace_TooWide => first | k_is | (refine Pr.kit_ref ?_ ?_ ?_ ?_ <;> k_is))
    (case ki_BadPlace_NoWord => first | k_is | (refine Pr.kit_ref ?_ ?_ ?_ ?_ <;> k_is))
    (case ki_BadPlace_Over => first | k_is | (refine Pr.kit_ref ?_ ?_ ?_ ?_ <;> k_is))
    (case ki_BadPlace_NothingBack => first | k_is | (refine Pr.kit_ref ?_ ?_ ?_ ?_ <;> k_is))
    (case ki_BadPlace_PlayError => first | k_is | (refine Pr.kit_ref ?_ ?_ ?_ ?_ <;> k_is))
    (case cm_BadPlace_PlayError => first | k_is | (refine Pr.exm_ref ?_ ?_ ?_ ?_ <;> k_is))
    (case xen => k_is)
    (case xet => k_is)
    (case pg_Board => k_is)
    (case hd_Board => k_is)
    (case po_Board => k_is)
    (case sa_Board => k_is)
    (case mk_Board => k_is)
    (case kc_Board => k_is)
    (case pg_Game => k_is)
    (case hd_Game => k_is)
    (case po_Game => k_is)
    (case sa_Game => k_is)
    (case mk_Game => k_is)
    (case kc_Game => k_is)
    (case a0 => k_is)
    (case l0 => k_is)
    (case c0 => k_is)
    (case k0 => k_is)
    (case a1 => k_is)
    (case l1 => k_is)
    (case c1 => k_is)
    (case k1 => k_is)
    (case a2 => k_is)
    (case l2 => k_is)
    (case c2 => k_is)
    (case k2 => k_is)
    (case a3 => k_is)
    (case l3 => k_is)
    (case c3 => k_is)
    (case k3 => k_is)
    (case a4 => k_is)
    (case l4 => k_is)
    (case c4 => k_is)
    (case k4 => k_is)
    (case a5 => k_is)
    (case l5 => k_is)
    (case c5 => k_is)
    (case k5 => k_is)
    (case a6 => k_is)
    (case l6 => k_is)
    (case c6 => k_is)
    (case k6 => k_is)
    (case a7 => k_is)
    (case i7 => k_is)
    (case l7 => k_is)
    (case c7 => k_is)
    (case k7 => k_is)
    (case a8 => k_is)
    (case i8 => k_is)
    (case l8 => k_is)
    (case c8 => k_is)
    (case k8 => k_is)
    (case a9 => k_is)
    (case l9 => k_is)
    (case c9 => k_is)
    (case k9 => k_is)
    (case a10 => k_is)
    (case l10 => k_is)
    (case c10 => k_is)
    (case k10 => k_is)
    (case a11 => k_is)
    (case l11 => k_is)
    (case c11 => k_is)
    (case k11 => k_is)
    (case a12 => k_is)
    (case l12 => k_is)
    (case c12 => k_is)
    (case k12 => k_is)
    (case a13 => k_is)
    (case l13 => k_is)
    (case c13 => k_is)
    (case k13 => k_is)
    (case a14 => k_is)
    (case l14 => k_is)
    (case c14 => k_is)
    (case k14 => k_is)
    (case a15 => k_is)
    (case l15 => k_is)
    (case c15 => k_is)
    (case k15 => k_is)
    (case a16 => k_is)
    (case l16 => k_is)
    (case c16 => k_is)
    (case k16 => k_is)
    (case a17 => k_is)
    (case l17 => k_is)
    (case c17 => k_is)
    (case k17 => k_is)
    (case a18 => k_is)
    (case l18 => k_is)
    (case c18 => k_is)
    (case k18 => k_is)
    (case a19 => k_is)
    (case i19 => k_is)
    (case l19 => k_is)
    (case c19 => k_is)
    (case k19 => k_is)
    (case a20 => k_is)
    (case l20 => k_is)
    (case c20 => k_is)
    (case k20 => k_is)
    (case a21 => k_is)
    (case l21 => k_is)
    (case c21 => k_is)
    (case k21 => k_is)
    (case a22 => k_is)
    (case l22 => k_is)
    (case c22 => k_is)
    (case k22 => k_is)
    (case a23 => k_is)
    (case l23 => k_is)
    (case c23 => k_is)
    (case k23 => k_is)
    (case a24 => k_is)
    (case l24 => k_is)
    (case c24 => k_is)
    (case k24 => k_is)
    (case a25 => k_is)
    (case l25 => k_is)
    (case c25 => k_is)
    (case k25 => k_is)
    (case a26 => k_is)
    (case l26 => k_is)
    (case c26 => k_is)
    (case k26 => k_is)
    (case a27 => k_is)
    (case l27 => k_is)
    (case c27 => k_is)
    (case k27 => k_is)
    (case a28 => k_is)
    (case l28 => k_is)
    (case c28 => k_is)
    (case k28 => k_is)
    (case a29 => k_is)
    (case l29 => k_is)
    (case c29 => k_is)
    (case k29 => k_is)
    (case a30 => k_is)
    (case l30 => k_is)
    (case c30 => k_is)
    (case k30 => k_is)
    (case a31 => k_is)
    (case l31 => k_is)
    (case c31 => k_is)
    (case k31 => k_is)
    (case a32 => k_is)
    (case l32 => k_is)
    (case c32 => k_is)
    (case k32 => k_is)
    (case na_Board_board => k_is)
    (case na_Board_wide => k_is)
    (case na_Board_high => k_is)
    (case na_Board_holes => k_is)
    (case na_Board_kinds => k_is)
    (case na_Board_rules => k_is)
    (case na_Board_turns => k_is)
    (case na_Board_ends => k_is)
    (case na_Board_stuck => k_is)
    (case na_Game_board => k_is)
    (case na_Game_wide => k_is)
    (case na_Game_high => k_is)
    (case na_Game_holes => k_is)
    (case na_Game_kinds => k_is)
    (case na_Game_rules => k_is)
    (case na_Game_turns => k_is)
    (case na_Game_ends => k_is)
    (case na_Game_stuck => k_is)
    (case z_bool => k_is)
    (case z_isinstance => k_is)
    (case z_int => k_is)
    (case z_len => k_is)
    (case z_str => k_is)
    (case z_range => k_is)
    (case z_reversed => k_is)
    (case z_set => k_is)
    (case z_list => k_is)
    (case z_sorted => k_is)
    (case z_tuple => k_is)
    (case z_enumerate => k_is)
    (case z_ValueError => k_is)
    (case c_LETTERS => k_is)
    (case c_EMPTY => k_is)
    (case c_HOLE => k_is)
    (case c_SIDES => k_is)
    (case l_SIDES => k_is)
    (case c_MOST_SIDE => k_is)
    (case c_SORTS => k_is)
    (case l_SORTS => k_is)
    (case c_AIMS => k_is)
    (case l_AIMS => k_is)
    (case c_END_WORDS => k_is)
    (case l_END_WORDS => k_is)
    (case c_STUCK_WORDS => k_is)
    (case l_STUCK_WORDS => k_is)
    (case c_MOST_RULES => k_is)
    (case c_MOST_PAIRS => k_is)
    (case c_MOST_KINDS => k_is)
